import PyProof.Rows.All
import Wide.All
import OpenK.AllK
import Wide.FinOn
import HandS.ForMost
import HandS.Exc
import HandS.HeadHook2
import HandS.TupAny
import HandS.Conv
import HandS.Wide
import HandS.TupLen
import HandS.RaiseMore
import HandS.IsInst
import KE.KDictPairs
import HandS.ExcOwn
import HandS.CallSlots
import HandS.Zip
import HandS.Comp
import HandS.DictComp
import HandS.Style
import HandS.Set
import HandS.SetFor
import HandS.TupSets
import HandS.More
import KE.SortData
import HandS.SortOrd
import PyProof.Rows.StrMeet
import HandS.Strs
import KE.GoesMore
import KE.KDictZip
import HandS.OwnIter
import HandS.IterVal
import HandS.Defaults
import HandS.HeadHook4
import HandS.Head0
import HandS.Head1
import HandS.Head2
import HandS.HeadEnd
import HandS.Words
import PySem.Challenge.RW_linkedfaults_k15_whole_least_chances
set_option Elab.async false
set_option linter.all false
set_option maxRecDepth 100000
set_option maxHeartbeats 4000000
section
namespace Rf
open PySem L2

/-- data: what a value is worth; hd k: the mutable object number k of the store -/
inductive D where
  | non
  | bl (b : Bool)
  | int (i : Int)
  | str (s : Str)
  | tup (xs : List D)
  | e0
  | lst (xs : List D)
  | scr (ns : List Int)
  | dk (kvs : List (Key × D))
  | dt (kvs : List (List Key × D))
  | ins (c : Str) (fs : List (Str × D))
  | hd (k : Nat)

/-- a mutable object -/
inductive Ob where
  | dead
  | lst (xs : List D)
  | dk (kvs : List (Key × D))
  | dt (kvs : List (List Key × D))
  | ins (c : Str) (fs : List (Str × D))
abbrev Sto := List Ob

def fracB : List D → Bool
  | [.int _, .int _] => true
  | _ => false

abbrev Frg := PySem.W.Frag
/-- where the mutable objects lie; what is hidden (the list of a comprehension that is under way) -/
structure Mu where
  f : Nat → Addr
  hid : List Addr
instance : CoeFun Mu fun _ => Nat → Addr := ⟨Mu.f⟩

mutual
def Rep (K : Frg) (G : Hp) (μ : Mu) (n : Nat) : D → V → Prop
  | .non, v => v = .non
  | .bl b, v => v = .bl b
  | .int i, v => v = .int i
  | .str s, v => v = .str s
  | .tup xs, v => ∃ p vs, v = .ref p ∧ Reps K G μ n xs vs ∧ vs.length ≤ sizeLine ∧ (G p = some (.tup vs) ∨ (fracB xs = true ∧ SqT K G p vs))
  | .e0, v => ∃ p, v = .ref p ∧ SqT K G p []
  | .lst xs, v => ∃ p vs, v = .ref p ∧ Reps K G μ n xs vs ∧ vs.length ≤ sizeLine ∧ G p = some (.lst vs)
  | .scr ns, v => ∃ p, v = .ref p ∧ ns.length ≤ 63 ∧ SqL K G p (ns.map V.int)
  | .dk kvs, v => ∃ p ws od, v = .ref p ∧ RepK K G μ n kvs ws ∧ G p = some (.frz od (.dK ws))
  | .dt kvs, v => ∃ p ws od, v = .ref p ∧ RepT K G μ n kvs ws ∧ G p = some (.frz od (.dT ws))
  | .ins c fs, v => ∃ p dx ws, v = .ref p ∧ RepS K G μ n fs ws ∧ G p = some (.ins (He.ga K c) dx ws)
  | .hd k, v => k < n ∧ v = .ref (μ k)
def Reps (K : Frg) (G : Hp) (μ : Mu) (n : Nat) : List D → List V → Prop
  | [], vs => vs = []
  | d :: ds, vs => ∃ v ws, vs = v :: ws ∧ Rep K G μ n d v ∧ Reps K G μ n ds ws
def RepK (K : Frg) (G : Hp) (μ : Mu) (n : Nat) : List (Key × D) → List (Key × V) → Prop
  | [], ws => ws = []
  | (k, d) :: r, ws => ∃ v w', ws = (k, v) :: w' ∧ Rep K G μ n d v ∧ RepK K G μ n r w'
def RepT (K : Frg) (G : Hp) (μ : Mu) (n : Nat) : List (List Key × D) → List (List Key × V) → Prop
  | [], ws => ws = []
  | (k, d) :: r, ws => ∃ v w', ws = (k, v) :: w' ∧ Rep K G μ n d v ∧ RepT K G μ n r w'
def RepS (K : Frg) (G : Hp) (μ : Mu) (n : Nat) : List (Str × D) → List (Str × V) → Prop
  | [], ws => ws = []
  | (k, d) :: r, ws => ∃ v w', ws = (k, v) :: w' ∧ Rep K G μ n d v ∧ RepS K G μ n r w'
end

/-- what lets the relation pass from one state to another -/
structure Tr (K : Frg) (G : Hp) (μ : Mu) (n : Nat) (G' : Hp) (μ' : Mu) (n' : Nat) : Prop where
  le : ∀ a o, G a = some o → G' a = some o
  mu : ∀ k, k < n → μ' k = μ k
  len : n ≤ n'

section
variable {K : Frg} {G G' : Hp} {μ μ' : Mu} {n n' : Nat}
theorem Tr.sqt (t : Tr K G μ n G' μ' n') {p : Addr} {vs : List V} (h : SqT K G p vs) : SqT K G' p vs := by
  rcases h with (h | ⟨o, h⟩) | h
  · exact .inl (.inl (t.le _ _ h))
  · exact .inl (.inr ⟨o, t.le _ _ h⟩)
  · exact .inr h
theorem Tr.rd (t : Tr K G μ n G' μ' n') {p : Addr} {u : HO} (h : Rd G p u) : Rd G' p u := by
  rcases h with h | ⟨o, h⟩
  · exact .inl (t.le _ _ h)
  · exact .inr ⟨o, t.le _ _ h⟩
theorem Tr.sql (t : Tr K G μ n G' μ' n') {p : Addr} {vs : List V} (h : SqL K G p vs) : SqL K G' p vs := by
  rcases h with (h | ⟨o, h⟩) | h
  · exact .inl (.inl (t.le _ _ h))
  · exact .inl (.inr ⟨o, t.le _ _ h⟩)
  · exact .inr h
mutual
theorem Rep.tr (t : Tr K G μ n G' μ' n') : ∀ (d : D) (v : V), Rep K G μ n d v → Rep K G' μ' n' d v
  | .non, v, h => by simpa [Rep] using h
  | .bl b, v, h => by simpa [Rep] using h
  | .int i, v, h => by simpa [Rep] using h
  | .str s, v, h => by simpa [Rep] using h
  | .tup xs, v, h => by
    simp only [Rep] at h ⊢
    obtain ⟨p, vs, e, r, z, c⟩ := h
    refine ⟨p, vs, e, Reps.tr t xs vs r, z, ?_⟩
    rcases c with c | ⟨c1, c2⟩
    · exact .inl (t.le _ _ c)
    · exact .inr ⟨c1, t.sqt c2⟩
  | .e0, v, h => by
    simp only [Rep] at h ⊢
    obtain ⟨p, e, c⟩ := h
    exact ⟨p, e, t.sqt c⟩
  | .lst xs, v, h => by
    simp only [Rep] at h ⊢
    obtain ⟨p, vs, e, r, z, c⟩ := h
    exact ⟨p, vs, e, Reps.tr t xs vs r, z, t.le _ _ c⟩
  | .scr ns, v, h => by
    simp only [Rep] at h ⊢
    obtain ⟨p, e, z, c⟩ := h
    exact ⟨p, e, z, t.sql c⟩
  | .dk kvs, v, h => by
    simp only [Rep] at h ⊢
    obtain ⟨p, vs, od, e, r, c⟩ := h
    exact ⟨p, vs, od, e, RepK.tr t kvs vs r, t.le _ _ c⟩
  | .dt kvs, v, h => by
    simp only [Rep] at h ⊢
    obtain ⟨p, vs, od, e, r, c⟩ := h
    exact ⟨p, vs, od, e, RepT.tr t kvs vs r, t.le _ _ c⟩
  | .ins c fs, v, h => by
    simp only [Rep] at h ⊢
    obtain ⟨p, dx, vs, e, r, c⟩ := h
    exact ⟨p, dx, vs, e, RepS.tr t fs vs r, t.le _ _ c⟩
  | .hd k, v, h => by
    simp only [Rep] at h ⊢
    obtain ⟨h1, h2⟩ := h
    exact ⟨Nat.lt_of_lt_of_le h1 t.len, by rw [h2, t.mu k h1]⟩
theorem Reps.tr (t : Tr K G μ n G' μ' n') : ∀ (ds : List D) (vs : List V), Reps K G μ n ds vs → Reps K G' μ' n' ds vs
  | [], vs, h => by simpa [Reps] using h
  | d :: ds, vs, h => by
    simp only [Reps] at h ⊢
    obtain ⟨v, ws, e, r, rs⟩ := h
    exact ⟨v, ws, e, Rep.tr t d v r, Reps.tr t ds ws rs⟩
theorem RepK.tr (t : Tr K G μ n G' μ' n') : ∀ (ds : List (Key × D)) (vs : List (Key × V)), RepK K G μ n ds vs → RepK K G' μ' n' ds vs
  | [], vs, h => by simpa [RepK] using h
  | (k, d) :: ds, vs, h => by
    simp only [RepK] at h ⊢
    obtain ⟨v, ws, e, r, rs⟩ := h
    exact ⟨v, ws, e, Rep.tr t d v r, RepK.tr t ds ws rs⟩
theorem RepT.tr (t : Tr K G μ n G' μ' n') : ∀ (ds : List (List Key × D)) (vs : List (List Key × V)), RepT K G μ n ds vs → RepT K G' μ' n' ds vs
  | [], vs, h => by simpa [RepT] using h
  | (k, d) :: ds, vs, h => by
    simp only [RepT] at h ⊢
    obtain ⟨v, ws, e, r, rs⟩ := h
    exact ⟨v, ws, e, Rep.tr t d v r, RepT.tr t ds ws rs⟩
theorem RepS.tr (t : Tr K G μ n G' μ' n') : ∀ (ds : List (Str × D)) (vs : List (Str × V)), RepS K G μ n ds vs → RepS K G' μ' n' ds vs
  | [], vs, h => by simpa [RepS] using h
  | (k, d) :: ds, vs, h => by
    simp only [RepS] at h ⊢
    obtain ⟨v, ws, e, r, rs⟩ := h
    exact ⟨v, ws, e, Rep.tr t d v r, RepS.tr t ds ws rs⟩
end
end
end Rf
end
section
namespace Rf
open PySem L2

/-- number k stands for an object -/
def Alive (Ω : Sto) (k : Nat) : Prop := ∃ o, Ω[k]? = some o ∧ o ≠ .dead
def addrs0 (μ : Mu) (Ω : Sto) : List Addr := (List.range Ω.length).filterMap fun k => match (Ω[k]? : Option Ob) with
  | none => none
  | some Ob.dead => none
  | some _ => some (μ k)
def addrs (μ : Mu) (Ω : Sto) : List Addr := addrs0 μ Ω ++ μ.hid
theorem mem_addrs0 {μ : Mu} {Ω : Sto} {a : Addr} : a ∈ addrs0 μ Ω ↔ ∃ k, Alive Ω k ∧ μ k = a := by
  unfold addrs0
  rw [List.mem_filterMap]
  constructor
  · rintro ⟨k, _, h⟩
    cases e : Ω[k]? with
    | none => rw [e] at h; cases h
    | some o =>
      rw [e] at h
      cases o with
      | dead => cases h
      | lst xs => exact ⟨k, ⟨_, e, by intro z; cases z⟩, Option.some.inj h⟩
      | dk xs => exact ⟨k, ⟨_, e, by intro z; cases z⟩, Option.some.inj h⟩
      | dt xs => exact ⟨k, ⟨_, e, by intro z; cases z⟩, Option.some.inj h⟩
      | ins c xs => exact ⟨k, ⟨_, e, by intro z; cases z⟩, Option.some.inj h⟩
  · rintro ⟨k, ⟨o, e, hne⟩, h⟩
    refine ⟨k, List.mem_range.mpr (List.getElem?_eq_some_iff.mp e).1, ?_⟩
    rw [e]
    cases o with
    | dead => exact absurd rfl hne
    | _ => rw [← h]
theorem mem_addrs {μ : Mu} {Ω : Sto} {a : Addr} : a ∈ addrs μ Ω ↔ (∃ k, Alive Ω k ∧ μ k = a) ∨ a ∈ μ.hid := by
  unfold addrs
  rw [List.mem_append, mem_addrs0]
/-- the part of the heap that never changes any more -/
def Fz (H : Hp) (μ : Mu) (Ω : Sto) : Hp := fun a => if a ∈ addrs μ Ω then none else H a
/-- the address belongs to no mutable object and is not hidden -/
def Off (μ : Mu) (Ω : Sto) (a : Addr) : Prop := (∀ k, Alive Ω k → μ k ≠ a) ∧ a ∉ μ.hid
theorem Fz.of {H : Hp} {μ : Mu} {Ω : Sto} {a : Addr} {o : HO} (h : Fz H μ Ω a = some o) : H a = some o ∧ Off μ Ω a := by
  unfold Fz at h
  split at h
  · cases h
  · rename_i hn
    exact ⟨h, fun k hk e => hn (mem_addrs.mpr (.inl ⟨k, hk, e⟩)), fun hh => hn (mem_addrs.mpr (.inr hh))⟩
theorem Fz.mk {H : Hp} {μ : Mu} {Ω : Sto} {a : Addr} {o : HO} (h : H a = some o) (hk : Off μ Ω a) : Fz H μ Ω a = some o := by
  unfold Fz
  rw [if_neg]
  · exact h
  · intro hm
    rcases mem_addrs.mp hm with ⟨k, h1, h2⟩ | hh
    · exact hk.1 k h1 h2
    · exact hk.2 hh

def ORep (K : Frg) (G : Hp) (μ : Mu) (n : Nat) : Ob → HO → Prop
  | .dead, _ => False
  | .lst xs, o => ∃ vs, o = .lst vs ∧ Reps K G μ n xs vs ∧ vs.length ≤ sizeLine
  | .dk kvs, o => ∃ ws, o = .dK ws ∧ RepK K G μ n kvs ws
  | .dt kvs, o => ∃ ws, o = .dT ws ∧ RepT K G μ n kvs ws
  | .ins c fs, o => ∃ dx ws, o = .ins (He.ga K c) dx ws ∧ RepS K G μ n fs ws
theorem ORep.tr {K : Frg} {G G' : Hp} {μ μ' : Mu} {n n' : Nat} (t : Tr K G μ n G' μ' n') : ∀ {o : Ob} {h : HO}, ORep K G μ n o h → ORep K G' μ' n' o h
  | .dead, _, h => h
  | .lst xs, o, ⟨vs, e, r, z⟩ => ⟨vs, e, Reps.tr t _ _ r, z⟩
  | .dk xs, o, ⟨vs, e, r⟩ => ⟨vs, e, RepK.tr t _ _ r⟩
  | .dt xs, o, ⟨vs, e, r⟩ => ⟨vs, e, RepT.tr t _ _ r⟩
  | .ins c xs, o, ⟨dx, vs, e, r⟩ => ⟨dx, vs, e, RepS.tr t _ _ r⟩

structure Wf (K : Frg) (H : Hp) (μ : Mu) (Ω : Sto) : Prop where
  inj : ∀ j k, Alive Ω j → Alive Ω k → μ j = μ k → j = k
  ob : ∀ k o, Ω[k]? = some o → o ≠ .dead → ∃ ho, H (μ k) = some ho ∧ ORep K (Fz H μ Ω) μ Ω.length o ho
  hin : ∀ a, a ∈ μ.hid → Mut (H a)
  hof : ∀ k, Alive Ω k → μ k ∉ μ.hid

structure Ext (K : Frg) (H : Hp) (μ : Mu) (Ω : Sto) (H' : Hp) (μ' : Mu) (Ω' : Sto) : Prop where
  wf : Wf K H' μ' Ω'
  fz : ∀ a o, Fz H μ Ω a = some o → Fz H' μ' Ω' a = some o
  mu : ∀ k, k < Ω.length → μ' k = μ k
  len : Ω.length ≤ Ω'.length
  hid : μ'.hid = μ.hid
  hkp : ∀ a, a ∈ μ.hid → H' a = H a

section
variable {K : Frg} {H H' H'' G G' : Hp} {μ μ' μ'' : Mu} {Ω Ω' Ω'' : Sto} {n n' : Nat}
theorem Tr.of_le (h : ∀ a o, G a = some o → G' a = some o) (hm : ∀ k, k < n → μ' k = μ k) (hl : n ≤ n') : Tr K G μ n G' μ' n' := ⟨h, hm, hl⟩
theorem Ext.tr (e : Ext K H μ Ω H' μ' Ω') : Tr K (Fz H μ Ω) μ Ω.length (Fz H' μ' Ω') μ' Ω'.length := Tr.of_le e.fz e.mu e.len
theorem Ext.refl (w : Wf K H μ Ω) : Ext K H μ Ω H μ Ω := ⟨w, fun _ _ h => h, fun _ _ => rfl, Nat.le_refl _, rfl, fun _ _ => rfl⟩
theorem Ext.trans (a : Ext K H μ Ω H' μ' Ω') (b : Ext K H' μ' Ω' H'' μ'' Ω'') : Ext K H μ Ω H'' μ'' Ω'' :=
  ⟨b.wf, fun x o h => b.fz x o (a.fz x o h), fun k hk => (b.mu k (Nat.lt_of_lt_of_le hk a.len)).trans (a.mu k hk), Nat.le_trans a.len b.len, b.hid.trans a.hid,
    fun x hx => (b.hkp x (by rw [a.hid]; exact hx)).trans (a.hkp x hx)⟩

/-- later, whatever is hidden -/
structure Lat (K : Frg) (H : Hp) (μ : Mu) (Ω : Sto) (H' : Hp) (μ' : Mu) (Ω' : Sto) : Prop where
  wf : Wf K H' μ' Ω'
  fz : ∀ a o, Fz H μ Ω a = some o → Fz H' μ' Ω' a = some o
  mu : ∀ k, k < Ω.length → μ' k = μ k
  len : Ω.length ≤ Ω'.length
theorem Ext.lat (e : Ext K H μ Ω H' μ' Ω') : Lat K H μ Ω H' μ' Ω' := ⟨e.wf, e.fz, e.mu, e.len⟩
theorem Lat.tr (e : Lat K H μ Ω H' μ' Ω') : Tr K (Fz H μ Ω) μ Ω.length (Fz H' μ' Ω') μ' Ω'.length := Tr.of_le e.fz e.mu e.len
theorem Lat.trans (a : Lat K H μ Ω H' μ' Ω') (b : Lat K H' μ' Ω' H'' μ'' Ω'') : Lat K H μ Ω H'' μ'' Ω'' :=
  ⟨b.wf, fun x o h => b.fz x o (a.fz x o h), fun k hk => (b.mu k (Nat.lt_of_lt_of_le hk a.len)).trans (a.mu k hk), Nat.le_trans a.len b.len⟩
theorem Wf.alive (w : Wf K H μ Ω) {k : Nat} (h : Alive Ω k) : ∃ ho, H (μ k) = some ho := by
  obtain ⟨o, e, hne⟩ := h
  obtain ⟨ho, q, _⟩ := w.ob k o e hne
  exact ⟨ho, q⟩
theorem Wf.fresh (w : Wf K H μ Ω) {p : Addr} (h : H p = none) {k : Nat} (hk : Alive Ω k) : μ k ≠ p := fun e => by
  obtain ⟨ho, q⟩ := w.alive hk
  rw [e, h] at q
  cases q
theorem Wf.hne (w : Wf K H μ Ω) (a : Addr) (h : a ∈ μ.hid) : H a ≠ none := fun e => by
  have m := w.hin a h
  rw [e] at m
  exact m
theorem Wf.freshO (w : Wf K H μ Ω) {p : Addr} (h : H p = none) : Off μ Ω p := ⟨fun k hk => w.fresh h hk, fun hh => w.hne p hh h⟩
/-- a new object that never changes -/
theorem Ext.new (w : Wf K H μ Ω) {p : Addr} {o : HO} (hp : H p = none) : Ext K H μ Ω (upd H p o) μ Ω := by
  have fz : ∀ a u, Fz H μ Ω a = some u → Fz (upd H p o) μ Ω a = some u := fun a u h => by
    obtain ⟨h1, h2⟩ := Fz.of h
    exact Fz.mk (by rw [upd_ne (ne_of_none h1 hp)]; exact h1) h2
  have hk : ∀ a, a ∈ μ.hid → upd H p o a = H a := fun a ha => upd_ne (fun e => w.hne a ha (by rw [e]; exact hp))
  refine ⟨⟨w.inj, fun k ob e hne => ?_, fun a ha => by rw [hk a ha]; exact w.hin a ha, w.hof⟩, fz, fun _ _ => rfl, Nat.le_refl _, rfl, hk⟩
  obtain ⟨ho, q, r⟩ := w.ob k ob e hne
  exact ⟨ho, by rw [upd_ne (ne_of_none q hp)]; exact q, r.tr (Tr.of_le fz (fun _ _ => rfl) (Nat.le_refl _))⟩
theorem Fz.new (w : Wf K H μ Ω) {p : Addr} {o : HO} (hp : H p = none) : Fz (upd H p o) μ Ω p = some o := Fz.mk upd_same (w.freshO hp)

def pushM (μ : Mu) (n : Nat) (p : Addr) : Mu := ⟨fun k => if k = n then p else μ k, μ.hid⟩
theorem pushM_lt {k : Nat} {p : Addr} (h : k < n) : pushM μ n p k = μ k := if_neg (Nat.ne_of_lt h)
theorem pushM_eq {p : Addr} : pushM μ n p n = p := if_pos rfl
theorem alive_push {ob : Ob} {k : Nat} (h : Alive (Ω ++ [ob]) k) : (k < Ω.length ∧ Alive Ω k) ∨ (k = Ω.length ∧ ob ≠ .dead) := by
  obtain ⟨o, e, hne⟩ := h
  by_cases hk : k < Ω.length
  · rw [List.getElem?_append_left hk] at e
    exact .inl ⟨hk, o, e, hne⟩
  · have hl := (List.getElem?_eq_some_iff.mp e).1
    rw [List.length_append, List.length_singleton] at hl
    have hk2 : k = Ω.length := by omega
    subst hk2
    rw [List.getElem?_append_right (Nat.le_refl _), Nat.sub_self] at e
    have e2 : some ob = some o := e
    exact .inr ⟨rfl, by rw [Option.some.inj e2]; exact hne⟩
theorem Alive.lt {k : Nat} (h : Alive Ω k) : k < Ω.length := let ⟨_, e, _⟩ := h; (List.getElem?_eq_some_iff.mp e).1
theorem Alive.push {k : Nat} {ob : Ob} (h : Alive Ω k) : Alive (Ω ++ [ob]) k := let ⟨o, e, hn⟩ := h; ⟨o, by rw [List.getElem?_append_left h.lt]; exact e, hn⟩
/-- a new mutable object -/
theorem Ext.push (w : Wf K H μ Ω) {p : Addr} {ho : HO} {ob : Ob} (hp : H p = none) (hr : ORep K (Fz H μ Ω) μ Ω.length ob ho) :
    Ext K H μ Ω (upd H p ho) (pushM μ Ω.length p) (Ω ++ [ob]) := by
  have fz : ∀ a u, Fz H μ Ω a = some u → Fz (upd H p ho) (pushM μ Ω.length p) (Ω ++ [ob]) a = some u := fun a u h => by
    obtain ⟨h1, h2⟩ := Fz.of h
    refine Fz.mk (by rw [upd_ne (ne_of_none h1 hp)]; exact h1) ⟨fun k hk => ?_, h2.2⟩
    rcases alive_push hk with ⟨hl, ha⟩ | ⟨e, _⟩
    · rw [pushM_lt hl]; exact h2.1 k ha
    · rw [e, pushM_eq]; exact (ne_of_none h1 hp).symm
  have mu : ∀ k, k < Ω.length → pushM μ Ω.length p k = μ k := fun k hk => pushM_lt hk
  have len : Ω.length ≤ (Ω ++ [ob]).length := by rw [List.length_append]; omega
  have hk : ∀ a, a ∈ μ.hid → upd H p ho a = H a := fun a ha => upd_ne (fun e => w.hne a ha (by rw [e]; exact hp))
  have t : Tr K (Fz H μ Ω) μ Ω.length (Fz (upd H p ho) (pushM μ Ω.length p) (Ω ++ [ob])) (pushM μ Ω.length p) (Ω ++ [ob]).length := Tr.of_le fz mu len
  refine ⟨⟨fun j k hj hk e => ?_, fun k o e hne => ?_, fun a ha => by rw [hk a ha]; exact w.hin a ha, fun k hk' hh => ?_⟩, fz, mu, len, rfl, hk⟩
  · rcases alive_push hj with ⟨l1, a1⟩ | ⟨e1, _⟩ <;> rcases alive_push hk with ⟨l2, a2⟩ | ⟨e2, _⟩
    · rw [pushM_lt l1, pushM_lt l2] at e; exact w.inj j k a1 a2 e
    · rw [pushM_lt l1, e2, pushM_eq] at e; exact absurd e (w.fresh hp a1)
    · rw [pushM_lt l2, e1, pushM_eq] at e; exact absurd e.symm (w.fresh hp a2)
    · rw [e1, e2]
  · rcases alive_push ⟨o, e, hne⟩ with ⟨l1, a1⟩ | ⟨e1, _⟩
    · rw [List.getElem?_append_left l1] at e
      obtain ⟨h0, q, r⟩ := w.ob k o e hne
      exact ⟨h0, by rw [pushM_lt l1, upd_ne (ne_of_none q hp)]; exact q, r.tr t⟩
    · subst e1
      rw [List.getElem?_append_right (Nat.le_refl _), Nat.sub_self] at e
      have e2 : ob = o := Option.some.inj e
      subst e2
      exact ⟨ho, by rw [pushM_eq]; exact upd_same, hr.tr t⟩
  · rcases alive_push hk' with ⟨l1, a1⟩ | ⟨e1, _⟩
    · rw [pushM_lt l1] at hh; exact w.hof k a1 hh
    · rw [e1, pushM_eq] at hh; exact w.hne p hh hp

theorem alive_set {ob : Ob} {j k : Nat} (h : Alive (Ω.set j ob) k) : (k ≠ j ∧ Alive Ω k) ∨ (k = j ∧ j < Ω.length ∧ ob ≠ .dead) := by
  obtain ⟨o, e, hne⟩ := h
  by_cases hk : k = j
  · subst hk
    have hl := (List.getElem?_eq_some_iff.mp e).1
    rw [List.length_set] at hl
    rw [List.getElem?_set_self hl] at e
    exact .inr ⟨rfl, hl, by rw [Option.some.inj e]; exact hne⟩
  · rw [List.getElem?_set_ne (Ne.symm hk)] at e
    exact .inl ⟨hk, o, e, hne⟩
/-- a mutable object changes -/
theorem Ext.put (w : Wf K H μ Ω) {k : Nat} {ho : HO} {ob : Ob} (ha : Alive Ω k) (hne : ob ≠ .dead) (hr : ORep K (Fz H μ Ω) μ Ω.length ob ho) :
    Ext K H μ Ω (upd H (μ k) ho) μ (Ω.set k ob) := by
  have q : ∀ i, Alive (Ω.set k ob) i → Alive Ω i := fun i hi => by
    rcases alive_set hi with ⟨_, a1⟩ | ⟨e1, _, _⟩
    · exact a1
    · rw [e1]; exact ha
  have fz : ∀ a u, Fz H μ Ω a = some u → Fz (upd H (μ k) ho) μ (Ω.set k ob) a = some u := fun a u h => by
    obtain ⟨h1, h2⟩ := Fz.of h
    exact Fz.mk (by rw [upd_ne (fun z => h2.1 k ha z.symm)]; exact h1) ⟨fun j hj => h2.1 j (q j hj), h2.2⟩
  have len : (Ω.set k ob).length = Ω.length := List.length_set ..
  have hk : ∀ a, a ∈ μ.hid → upd H (μ k) ho a = H a := fun a h => upd_ne (fun e => w.hof k ha (by rw [← e]; exact h))
  have t : Tr K (Fz H μ Ω) μ Ω.length (Fz (upd H (μ k) ho) μ (Ω.set k ob)) μ (Ω.set k ob).length := Tr.of_le fz (fun _ _ => rfl) (Nat.le_of_eq len.symm)
  refine ⟨⟨fun i j hi hj e => w.inj i j (q i hi) (q j hj) e, fun j o e hn => ?_, fun a h => by rw [hk a h]; exact w.hin a h, fun j hj => w.hof j (q j hj)⟩, fz, fun _ _ => rfl, Nat.le_of_eq len.symm, rfl, hk⟩
  rcases alive_set ⟨o, e, hn⟩ with ⟨ne, a1⟩ | ⟨e1, hl, _⟩
  · rw [List.getElem?_set_ne (Ne.symm ne)] at e
    obtain ⟨h0, q, r⟩ := w.ob j o e hn
    exact ⟨h0, by rw [upd_ne (fun z => ne (w.inj j k a1 ha z))]; exact q, r.tr t⟩
  · subst e1
    rw [List.getElem?_set_self hl] at e
    have e2 : ob = o := Option.some.inj e
    subst e2
    exact ⟨ho, upd_same, hr.tr t⟩
/-- a mutable object changes no more, and stands as o from now on -/
theorem Ext.retire (w : Wf K H μ Ω) {k : Nat} (ha : Alive Ω k) (o : HO) : Ext K H μ Ω (upd H (μ k) o) μ (Ω.set k .dead) := by
  have q : ∀ i, Alive (Ω.set k .dead) i → Alive Ω i ∧ i ≠ k := fun i hi => by
    rcases alive_set hi with ⟨ne, a1⟩ | ⟨_, _, e⟩
    · exact ⟨a1, ne⟩
    · exact absurd rfl e
  have fz : ∀ a u, Fz H μ Ω a = some u → Fz (upd H (μ k) o) μ (Ω.set k .dead) a = some u := fun a u h => by
    obtain ⟨h1, h2⟩ := Fz.of h
    exact Fz.mk (by rw [upd_ne (fun z => h2.1 k ha z.symm)]; exact h1) ⟨fun j hj => h2.1 j (q j hj).1, h2.2⟩
  have len : (Ω.set k .dead).length = Ω.length := List.length_set ..
  have hk : ∀ a, a ∈ μ.hid → upd H (μ k) o a = H a := fun a h => upd_ne (fun e => w.hof k ha (by rw [← e]; exact h))
  have t : Tr K (Fz H μ Ω) μ Ω.length (Fz (upd H (μ k) o) μ (Ω.set k .dead)) μ (Ω.set k .dead).length := Tr.of_le fz (fun _ _ => rfl) (Nat.le_of_eq len.symm)
  refine ⟨⟨fun i j hi hj e => w.inj i j (q i hi).1 (q j hj).1 e, fun j ob e hn => ?_, fun a h => by rw [hk a h]; exact w.hin a h, fun j hj => w.hof j (q j hj).1⟩, fz, fun _ _ => rfl, Nat.le_of_eq len.symm, rfl, hk⟩
  obtain ⟨a1, ne⟩ := q j ⟨ob, e, hn⟩
  rw [List.getElem?_set_ne (Ne.symm ne)] at e
  obtain ⟨h0, q0, r⟩ := w.ob j ob e hn
  exact ⟨h0, by rw [upd_ne (fun z => ne (w.inj j k a1 ha z))]; exact q0, r.tr t⟩
theorem Fz.retire (w : Wf K H μ Ω) {k : Nat} (ha : Alive Ω k) (o : HO) : Fz (upd H (μ k) o) μ (Ω.set k .dead) (μ k) = some o := by
  refine Fz.mk upd_same ⟨fun j hj => ?_, w.hof k ha⟩
  rcases alive_set hj with ⟨ne, a1⟩ | ⟨_, _, e⟩
  · exact fun z => ne (w.inj j k a1 ha z)
  · exact absurd rfl e
theorem upd_id {p : Addr} {o : HO} (h : H p = some o) : upd H p o = H := by
  funext a
  by_cases e : a = p
  · rw [e, upd_same, h]
  · rw [upd_ne e]
/-- a mutable object changes no more -/
theorem Ext.freeze (w : Wf K H μ Ω) {k : Nat} (ha : Alive Ω k) : Ext K H μ Ω H μ (Ω.set k .dead) := by
  obtain ⟨o, h⟩ := w.alive ha
  have := Ext.retire w ha o
  rw [upd_id h] at this
  exact this
theorem Fz.freeze (w : Wf K H μ Ω) {k : Nat} {ho : HO} (ha : Alive Ω k) (h : H (μ k) = some ho) : Fz H μ (Ω.set k .dead) (μ k) = some ho := by
  have := Fz.retire w ha ho
  rw [upd_id h] at this
  exact this

/-- a tuple never changes -/
theorem Fz.tup (w : Wf K H μ Ω) {p : Addr} {vs : List V} (h : H p = some (.tup vs)) : Fz H μ Ω p = some (.tup vs) := by
  refine Fz.mk h ⟨fun k ⟨o, eo, hne⟩ z => ?_, fun z => ?_⟩
  · obtain ⟨ho, h1, r⟩ := w.ob k o eo hne
    rw [z, h] at h1
    cases h1
    cases o with
    | dead => exact hne rfl
    | lst xs => obtain ⟨_, e, _⟩ := r; cases e
    | dk xs => obtain ⟨_, e, _⟩ := r; cases e
    | dt xs => obtain ⟨_, e, _⟩ := r; cases e
    | ins c xs => obtain ⟨_, _, e, _⟩ := r; cases e
  · have := w.hin p z
    rw [h] at this
    exact this
/-! ### hidden objects -/
def Mu.hide (μ : Mu) (p : Addr) : Mu := ⟨μ.f, p :: μ.hid⟩
def Mu.show (μ : Mu) : Mu := ⟨μ.f, μ.hid.tail⟩
theorem Fz.hide (w : Wf K H μ Ω) {p : Addr} {o : HO} (hp : H p = none) : Fz (upd H p o) (μ.hide p) Ω = Fz H μ Ω := by
  funext a
  by_cases e : a = p
  · subst e
    unfold Fz
    rw [if_pos (mem_addrs.mpr (.inr (List.mem_cons_self ..)))]
    split
    · rfl
    · exact hp.symm
  · have hm : a ∈ addrs (μ.hide p) Ω ↔ a ∈ addrs μ Ω := by
      rw [mem_addrs, mem_addrs]
      show _ ∨ a ∈ p :: μ.hid ↔ _
      rw [List.mem_cons]
      constructor
      · rintro (h | h | h)
        · exact .inl h
        · exact absurd h e
        · exact .inr h
      · rintro (h | h)
        · exact .inl h
        · exact .inr (.inr h)
    unfold Fz
    by_cases h : a ∈ addrs μ Ω
    · rw [if_pos h, if_pos (hm.mpr h)]
    · rw [if_neg h, if_neg (fun z => h (hm.mp z)), upd_ne e]
/-- a new object, hidden -/
theorem Wf.hide (w : Wf K H μ Ω) {p : Addr} {o : HO} (hp : H p = none) (hm : Mut (some o)) : Wf K (upd H p o) (μ.hide p) Ω := by
  refine ⟨w.inj, fun k ob e hne => ?_, fun a ha => ?_, fun k hk hh => ?_⟩
  · obtain ⟨ho, q, r⟩ := w.ob k ob e hne
    rw [Fz.hide w hp]
    exact ⟨ho, by show upd H p o (μ k) = _; rw [upd_ne (ne_of_none q hp)]; exact q, ORep.tr (μ := μ) (Tr.of_le (μ := μ) (μ' := μ.hide p) (fun _ _ h => h) (fun _ _ => rfl) (Nat.le_refl _)) r⟩
  · by_cases e : a = p
    · rw [e, upd_same]; exact hm
    · rw [upd_ne e]
      rcases List.mem_cons.mp ha with z | z
      · exact absurd z e
      · exact w.hin a z
  · rcases List.mem_cons.mp hh with z | z
    · exact w.fresh hp hk z
    · exact w.hof k hk z
theorem Fz.hidden {p : Addr} {o : HO} (hp : p ∈ μ.hid) : Fz (upd H p o) μ Ω = Fz H μ Ω := by
  funext a
  by_cases e : a = p
  · subst e
    unfold Fz
    rw [if_pos (mem_addrs.mpr (.inr hp)), if_pos (mem_addrs.mpr (.inr hp))]
  · unfold Fz
    rw [upd_ne e]
/-- what is hidden may change -/
theorem Wf.rehide (w : Wf K H μ Ω) {p : Addr} {o : HO} (hp : p ∈ μ.hid) (hm : Mut (some o)) : Wf K (upd H p o) μ Ω := by
  refine ⟨w.inj, fun k ob e hne => ?_, fun a ha => ?_, w.hof⟩
  · obtain ⟨ho, q, r⟩ := w.ob k ob e hne
    rw [Fz.hidden hp]
    exact ⟨ho, by rw [upd_ne (fun z => w.hof k ⟨ob, e, hne⟩ (by rw [z]; exact hp))]; exact q, r⟩
  · by_cases e : a = p
    · rw [e, upd_same]; exact hm
    · rw [upd_ne e]; exact w.hin a ha
theorem Ext.rehide {p : Addr} {o o' : HO} (e : Ext K (upd H p o) μ Ω H' μ' Ω') (hp : p ∈ μ.hid) (hm : Mut (some o')) : Ext K (upd H p o') μ Ω (upd H' p o') μ' Ω' := by
  have hp' : p ∈ μ'.hid := by rw [e.hid]; exact hp
  refine ⟨e.wf.rehide hp' hm, fun a u h => ?_, e.mu, e.len, e.hid, fun a ha => ?_⟩
  · rw [Fz.hidden hp']
    rw [Fz.hidden hp] at h
    exact e.fz a u (by rw [Fz.hidden hp]; exact h)
  · by_cases z : a = p
    · rw [z, upd_same, upd_same]
    · rw [upd_ne z, upd_ne z, e.hkp a ha, upd_ne z]
theorem Lat.hid {p : Addr} {o : HO} (w : Wf K H μ Ω) (hp : H p = none) (e : Ext K (upd H p o) (μ.hide p) Ω H' μ' Ω') : Lat K H μ Ω H' μ' Ω' :=
  ⟨e.wf, fun a u h => e.fz a u (by rw [Fz.hide w hp]; exact h), e.mu, e.len⟩
/-- what was hidden is seen, and never changes again -/
theorem Ext.unhide {p : Addr} {o o' : HO} (w : Wf K H μ Ω) (hp : H p = none) (e : Ext K (upd H p o) (μ.hide p) Ω H' μ' Ω') : Ext K H μ Ω (upd H' p o') μ'.show Ω' := by
  have hh : μ'.hid = p :: μ.hid := e.hid
  have hs : μ'.show.hid = μ.hid := by show μ'.hid.tail = _; rw [hh]; rfl
  have hp' : p ∈ μ'.hid := by rw [hh]; exact List.mem_cons_self ..
  have pn : p ∉ μ.hid := fun z => w.hne p z hp
  have fz : ∀ a u, Fz H' μ' Ω' a = some u → Fz (upd H' p o') μ'.show Ω' a = some u := fun a u h => by
    obtain ⟨h1, h2⟩ := Fz.of h
    have ne : a ≠ p := fun z => h2.2 (by rw [z]; exact hp')
    refine Fz.mk (by rw [upd_ne ne]; exact h1) ⟨h2.1, fun z => h2.2 ?_⟩
    rw [hs] at z
    rw [hh]
    exact List.mem_cons_of_mem _ z
  refine ⟨⟨e.wf.inj, fun k ob eo hne => ?_, fun a ha => ?_, fun k hk z => ?_⟩, fun a u h => ?_, e.mu, e.len, hs, fun a ha => ?_⟩
  · obtain ⟨ho, q, r⟩ := e.wf.ob k ob eo hne
    have ne : μ' k ≠ p := fun z => e.wf.hof k ⟨ob, eo, hne⟩ (by rw [z]; exact hp')
    exact ⟨ho, by show upd H' p o' (μ' k) = _; rw [upd_ne ne]; exact q, ORep.tr (μ := μ') (Tr.of_le (μ := μ') (μ' := μ'.show) fz (fun _ _ => rfl) (Nat.le_refl _)) r⟩
  · have z : a ≠ p := fun z => by rw [hs, z] at ha; exact pn ha
    · rw [upd_ne z]
      rw [hs] at ha
      exact e.wf.hin a (by rw [hh]; exact List.mem_cons_of_mem _ ha)
  · rw [hs] at z
    exact e.wf.hof k hk (by rw [hh]; exact List.mem_cons_of_mem _ z)
  · exact fz a u (e.fz a u (by rw [Fz.hide w hp]; exact h))
  · have ne : a ≠ p := fun z => pn (by rw [← z]; exact ha)
    rw [upd_ne ne, e.hkp a (List.mem_cons_of_mem _ ha), upd_ne ne]
theorem Tr.unhide {p : Addr} {o o' : HO} (w : Wf K H μ Ω) (hp : H p = none) (e : Ext K (upd H p o) (μ.hide p) Ω H' μ' Ω') : Tr K (Fz H' μ' Ω') μ' Ω'.length (Fz (upd H' p o') μ'.show Ω') μ'.show Ω'.length := by
  have hh : μ'.hid = p :: μ.hid := e.hid
  have hs : μ'.show.hid = μ.hid := by show μ'.hid.tail = _; rw [hh]; rfl
  refine Tr.of_le (fun a u h => ?_) (fun _ _ => rfl) (Nat.le_refl _)
  obtain ⟨h1, h2⟩ := Fz.of h
  have ne : a ≠ p := fun z => h2.2 (by rw [z, hh]; exact List.mem_cons_self ..)
  refine Fz.mk (by rw [upd_ne ne]; exact h1) ⟨h2.1, fun z => h2.2 ?_⟩
  rw [hs] at z
  rw [hh]
  exact List.mem_cons_of_mem _ z
theorem Fz.unhide {p : Addr} {o o' : HO} (w : Wf K H μ Ω) (hp : H p = none) (e : Ext K (upd H p o) (μ.hide p) Ω H' μ' Ω') : Fz (upd H' p o') μ'.show Ω' p = some o' := by
  have hh : μ'.hid = p :: μ.hid := e.hid
  have hs : μ'.show.hid = μ.hid := by show μ'.hid.tail = _; rw [hh]; rfl
  refine Fz.mk upd_same ⟨fun k hk z => e.wf.hof k hk (by rw [hh, ← z]; exact List.mem_cons_self ..), fun z => ?_⟩
  rw [hs] at z
  exact w.hne p z hp
/-- what was hidden is a mutable object from now on -/
theorem Ext.hidpush {p : Addr} {o ho : HO} {ob : Ob} (w : Wf K H μ Ω) (hp : H p = none) (e : Ext K (upd H p o) (μ.hide p) Ω H' μ' Ω') (h' : H' p = some ho) (hr : ORep K (Fz H' μ' Ω') μ' Ω'.length ob ho) :
    Ext K H μ Ω H' (pushM μ'.show Ω'.length p) (Ω' ++ [ob]) := by
  have hh : μ'.hid = p :: μ.hid := e.hid
  have hs : (pushM μ'.show Ω'.length p).hid = μ.hid := by show μ'.hid.tail = _; rw [hh]; rfl
  have hp' : p ∈ μ'.hid := by rw [hh]; exact List.mem_cons_self ..
  have pn : p ∉ μ.hid := fun z => w.hne p z hp
  have mu : ∀ k, k < Ω'.length → (pushM μ'.show Ω'.length p) k = μ' k := fun k hk => pushM_lt (μ := μ'.show) hk
  have fz : ∀ a u, Fz H' μ' Ω' a = some u → Fz H' (pushM μ'.show Ω'.length p) (Ω' ++ [ob]) a = some u := fun a u h => by
    obtain ⟨h1, h2⟩ := Fz.of h
    have ne : a ≠ p := fun z => h2.2 (by rw [z]; exact hp')
    refine Fz.mk h1 ⟨fun k hk => ?_, fun z => h2.2 ?_⟩
    · rcases alive_push hk with ⟨hl, ha⟩ | ⟨e1, _⟩
      · rw [mu k hl]; exact h2.1 k ha
      · rw [e1, pushM_eq]; exact ne.symm
    · rw [hs] at z
      rw [hh]
      exact List.mem_cons_of_mem _ z
  have len : Ω'.length ≤ (Ω' ++ [ob]).length := by rw [List.length_append]; omega
  have t : Tr K (Fz H' μ' Ω') μ' Ω'.length (Fz H' (pushM μ'.show Ω'.length p) (Ω' ++ [ob])) (pushM μ'.show Ω'.length p) (Ω' ++ [ob]).length := Tr.of_le fz mu len
  refine ⟨⟨fun j k hj hk q => ?_, fun k u eo hne => ?_, fun a ha => ?_, fun k hk z => ?_⟩, fun a u h => ?_, fun k hk => ?_, Nat.le_trans e.len len, hs, fun a ha => ?_⟩
  · rcases alive_push hj with ⟨l1, a1⟩ | ⟨e1, _⟩ <;> rcases alive_push hk with ⟨l2, a2⟩ | ⟨e2, _⟩
    · rw [mu j l1, mu k l2] at q; exact e.wf.inj j k a1 a2 q
    · rw [mu j l1, e2, pushM_eq] at q; exact absurd (q ▸ hp') (e.wf.hof j a1)
    · rw [mu k l2, e1, pushM_eq] at q; exact absurd (q ▸ hp') (e.wf.hof k a2)
    · rw [e1, e2]
  · rcases alive_push ⟨u, eo, hne⟩ with ⟨l1, a1⟩ | ⟨e1, _⟩
    · rw [List.getElem?_append_left l1] at eo
      obtain ⟨h0, q, r⟩ := e.wf.ob k u eo hne
      exact ⟨h0, by rw [mu k l1]; exact q, r.tr t⟩
    · subst e1
      rw [List.getElem?_append_right (Nat.le_refl _), Nat.sub_self] at eo
      have e2 : ob = u := Option.some.inj eo
      subst e2
      exact ⟨ho, by rw [pushM_eq]; exact h', hr.tr t⟩
  · rw [hs] at ha
    exact e.wf.hin a (by rw [hh]; exact List.mem_cons_of_mem _ ha)
  · rw [hs] at z
    rcases alive_push hk with ⟨l1, a1⟩ | ⟨e1, _⟩
    · rw [mu k l1] at z; exact e.wf.hof k a1 (by rw [hh]; exact List.mem_cons_of_mem _ z)
    · rw [e1, pushM_eq] at z; exact pn z
  · exact fz a u (e.fz a u (by rw [Fz.hide w hp]; exact h))
  · rw [mu k (Nat.lt_of_lt_of_le hk e.len)]
    exact e.mu k hk
  · have ne : a ≠ p := fun z => pn (by rw [← z]; exact ha)
    rw [e.hkp a (List.mem_cons_of_mem _ ha), upd_ne ne]
end
/-! ### small facts about Reps -/
section
variable {K : Frg} {G : Hp} {μ : Mu} {n : Nat}
theorem Reps.length : ∀ {ds : List D} {vs : List V}, Reps K G μ n ds vs → vs.length = ds.length
  | [], vs, h => by simp only [Reps] at h; rw [h]; rfl
  | d :: ds, vs, h => by
    simp only [Reps] at h
    obtain ⟨v, ws, e, _, r⟩ := h
    rw [e, List.length_cons, List.length_cons, Reps.length r]
theorem Reps.get : ∀ {ds : List D} {vs : List V} {i : Nat} {d : D}, Reps K G μ n ds vs → ds[i]? = some d → ∃ v, vs[i]? = some v ∧ Rep K G μ n d v
  | [], _, _, _, _, e => by simp at e
  | d :: ds, vs, 0, d', h, e => by
    simp only [Reps] at h
    obtain ⟨v, ws, rfl, r, _⟩ := h
    simp at e
    subst e
    exact ⟨v, rfl, r⟩
  | d :: ds, vs, i + 1, d', h, e => by
    simp only [Reps] at h
    obtain ⟨v, ws, rfl, _, r⟩ := h
    exact Reps.get (i := i) r (by simpa using e)
theorem Reps.append : ∀ {ds es : List D} {vs ws : List V}, Reps K G μ n ds vs → Reps K G μ n es ws → Reps K G μ n (ds ++ es) (vs ++ ws)
  | [], es, vs, ws, h, r => by simp only [Reps] at h; rw [h]; exact r
  | d :: ds, es, vs, ws, h, r => by
    simp only [Reps] at h
    obtain ⟨v, us, rfl, r1, r2⟩ := h
    show Reps K G μ n (d :: (ds ++ es)) (v :: (us ++ ws))
    simp only [Reps]
    exact ⟨v, _, rfl, r1, Reps.append r2 r⟩
theorem Reps.one {d : D} {v : V} (h : Rep K G μ n d v) : Reps K G μ n [d] [v] := by
  simp only [Reps]
  exact ⟨v, [], rfl, h, rfl⟩
theorem Reps.cons {d : D} {v : V} {ds : List D} {vs : List V} (h : Rep K G μ n d v) (r : Reps K G μ n ds vs) : Reps K G μ n (d :: ds) (v :: vs) := by
  simp only [Reps]
  exact ⟨v, vs, rfl, h, r⟩
theorem Reps.nil : Reps K G μ n [] [] := by simp only [Reps]
theorem Reps.drop : ∀ {ds : List D} {vs : List V} (i : Nat), Reps K G μ n ds vs → Reps K G μ n (ds.drop i) (vs.drop i)
  | _, _, 0, h => h
  | [], vs, i + 1, h => by simp only [Reps] at h; rw [h]; simpa using Reps.nil
  | d :: ds, vs, i + 1, h => by
    simp only [Reps] at h
    obtain ⟨v, us, rfl, r1, r2⟩ := h
    exact Reps.drop i r2
theorem Reps.take : ∀ {ds : List D} {vs : List V} (i : Nat), Reps K G μ n ds vs → Reps K G μ n (ds.take i) (vs.take i)
  | _, _, 0, h => by simpa using Reps.nil
  | [], vs, i + 1, h => by simp only [Reps] at h; rw [h]; simpa using Reps.nil
  | d :: ds, vs, i + 1, h => by
    simp only [Reps] at h
    obtain ⟨v, us, rfl, r1, r2⟩ := h
    exact Reps.cons r1 (Reps.take i r2)
theorem Reps.set {d : D} {v : V} (h : Rep K G μ n d v) : ∀ {ds : List D} {vs : List V} (i : Nat), Reps K G μ n ds vs → Reps K G μ n (ds.set i d) (vs.set i v)
  | [], vs, i, r => by simp only [Reps] at r; rw [r]; simpa using Reps.nil
  | e :: ds, vs, 0, r => by
    simp only [Reps] at r
    obtain ⟨u, us, rfl, r1, r2⟩ := r
    exact Reps.cons h r2
  | e :: ds, vs, i + 1, r => by
    simp only [Reps] at r
    obtain ⟨u, us, rfl, r1, r2⟩ := r
    exact Reps.cons r1 (Reps.set h i r2)
end
end Rf
end
section
namespace Rf
open PySem L2

/-! ### the small language -/
/-- built-in functions and types that are called -/
inductive Bi where
  | len | abs | all | any | int | str | list | tuple | dict | sorted | sum | mn
  deriving DecidableEq
def Bi.name : Bi → Str
  | .len => "len" | .abs => "abs" | .all => "all" | .any => "any" | .int => "int" | .str => "str" | .list => "list" | .tuple => "tuple" | .dict => "dict" | .sorted => "sorted" | .sum => "sum" | .mn => "min"
/-- methods of built-in types -/
inductive Mt where
  | append | extend | pop | popi | join | get1 | get2 | clear
  deriving DecidableEq
def Mt.name : Mt → Str
  | .append => "append" | .extend => "extend" | .pop => "pop" | .popi => "pop" | .join => "join" | .get1 => "get" | .get2 => "get" | .clear => "clear"
/-- what isinstance asks for -/
inductive Ty where
  | int | bool | str | list | tuple | dict | own (c : Str)
  deriving DecidableEq
/-- targets: a name, names -/
inductive Tg where
  | nm (i : Nat) | tp (is : List Nat)
mutual
inductive E where
  | var (i : Nat)
  | glo (x : Str)
  | non
  | bl (b : Bool)
  | int (i : Int)
  | str (s : Str)
  | tup (es : EL)
  | lst (es : EL)
  | newl (es : EL)
  | newk
  | newt
  | newb (a : E)
  | newc (own : List Nat) (tg : Tg) (s : Sr) (c : EO) (e : E)
  | op2 (o : Operator) (a b : E)
  | neg (a : E)
  | not (a : E)
  | and (es : EL)
  | or (es : EL)
  | ite (c a b : E)
  | cmp (o : CmpOp) (a b : E)
  | isn (a : E)
  | notn (a : E)
  | chn (o p : CmpOp) (a b c : E)
  | idx (a b : E)
  | slc (a : E) (lo hi : EO)
  | fld (a : E) (f : Str)
  | call (f : Str) (es : EL) (j : Nat)
  | mk (c q : Str) (es : EL) (j : Nat)
  | mcall (a : E) (c m q : Str) (es : EL) (j : Nat)
  | bi (f : Bi) (es : EL)
  | meth (a : E) (m : Mt) (es : EL)
  | isi (a : E) (ts : List Ty)
  | sset (a : E)
  | lzip (a b : E)
  | lins (a : E) (c : Str)
  | lc (own : List Nat) (tg : Tg) (s : Sr) (c : EO) (e : E)
  | lc2 (own own1 : List Nat) (tg : Tg) (s : Sr) (tg1 : Tg) (s1 : Sr) (c : EO) (e : E)
  | dc (own : List Nat) (tg : Tg) (s : Sr) (c : EO) (k v : E)
  | frz (a : E)
  | nope
inductive EL where
  | nil
  | cons (e : E) (r : EL)
inductive EO where
  | none
  | some (e : E)
inductive Sr where
  | val (e : E)
  | items (e : E)
  | vals (e : E)
  | enum (e : E)
  | zip (a b : E)
  | rng (a : E)
  | rng2 (a b : E)
  | inst (e : E) (c : Str)
end
mutual
inductive S where
  | asg (tg : Tg) (e : E)
  | par (is : List Nat) (es : EL)
  | fset (a : E) (f : Str) (e : E)
  | iset (a b e : E)
  | expr (e : E)
  | ret (e : E)
  | retN
  | ife (c : E) (t f : SL)
  | for (tg : Tg) (s : Sr) (b : SL)
  | whl (c : E) (b : SL)
  | raise (c : Str) (es : EL)
  | brk
  | cnt
  | pass
  | nope
inductive SL where
  | nil
  | cons (s : S) (r : SL)
end

/-! ### results -/
structure Exn where
  cls : Str
  fs : List (Str × D)
inductive R (α : Type) where
  | ok (a : α) (Ω : Sto)
  | ex (x : Exn) (Ω : Sto)
  | bad
def R.bind {α β : Type} (r : R α) (f : α → Sto → R β) : R β := match r with
  | .ok a Ω => f a Ω
  | .ex x Ω => .ex x Ω
  | .bad => .bad
/-- an exception may not come out of here -/
def R.nx {α : Type} : R α → R α
  | .ok a Ω => .ok a Ω
  | _ => .bad
def opt {α : Type} (o : Option α) (Ω : Sto) : R α := match o with
  | some a => .ok a Ω
  | none => .bad
abbrev Env := List (Option D)

/-! ### operations on data -/
/-- what a handle stands for, as data (a look, nothing is handed on) -/
def lk (Ω : Sto) : D → D
  | .hd k => match Ω[k]? with
    | some (.lst xs) => .lst xs
    | some (.dk kvs) => .dk kvs
    | some (.dt kvs) => .dt kvs
    | some (.ins c fs) => .ins c fs
    | _ => .hd k
  | d => d
def isNonD : D → Bool
  | .non => true
  | _ => false
def big : Nat := 16777216
def opAdd : D → D → Option D
  | .int i, .int j => some (.int (i + j))
  | .str a, .str b => if a.length + b.length ≤ big then some (.str (a ++ b)) else none
  | .lst a, .lst b => if a.length + b.length ≤ big then some (.lst (a ++ b)) else none
  | .tup a, .tup b => if a.length + b.length ≤ big then some (.tup (a ++ b)) else none
  | _, _ => none
def opMul : D → D → Option D
  | .int i, .int j => if i.natAbs.log2 + j.natAbs.log2 < 1000000 then some (.int (i * j)) else none
  | .lst a, .int k => if -(2 ^ 63) ≤ k ∧ k < 2 ^ 63 ∧ a.length * k.toNat ≤ big then some (.lst (List.replicate k.toNat a).flatten) else none
  | _, _ => none
def op2D : Operator → D → D → Option D
  | .Add, a, b => opAdd a b
  | .Sub, .int i, .int j => some (.int (i - j))
  | .Mult, a, b => opMul a b
  | .FloorDiv, .int i, .int j => if 0 < j ∧ j.natAbs.log2 < 9000 then some (.int (i / j)) else none
  | .Mod, .int i, .int j => if 0 < j then some (.int (i % j)) else none
  | .Pow, .int i, .int j => if 0 ≤ j ∧ j ≤ 1000000 ∧ i.natAbs < 2 ^ 64 then some (.int (i ^ j.toNat)) else none
  | _, _, _ => none

mutual
def toPy : D → Option PyData
  | .non => some .none
  | .bl b => some (.bool b)
  | .int i => some (.int i)
  | .str s => some (.str s)
  | .tup xs => (toPys xs).map .tuple
  | .e0 => some (.tuple [])
  | .lst xs => (toPys xs).map .list
  | _ => none
def toPys : List D → Option (List PyData)
  | [] => some []
  | x :: xs => match toPy x, toPys xs with
    | some d, some ds => some (d :: ds)
    | _, _ => none
end
def eqD (a b : D) : Option Bool := match toPy a, toPy b with
  | some x, some y => if SeqAt.shaped x = true ∧ SeqAt.shaped y = true then some (PyData.eqv x y) else none
  | _, _ => none
def flatD : D → Bool
  | .non => true
  | .bl _ => true
  | .int _ => true
  | .str _ => true
  | _ => false
def eqFlat : D → D → Bool
  | .non, .non => true
  | .bl a, .bl b => a == b
  | .bl a, .int b => (if a then 1 else 0) == b
  | .int a, .bl b => a == (if b then 1 else 0)
  | .int a, .int b => a == b
  | .str a, .str b => a == b
  | _, _ => false
def keyD : D → Option Key
  | .int i => some (.inl i)
  | .str s => some (.inr s)
  | _ => none
def keysD : List D → Option (List Key)
  | [] => some []
  | x :: xs => match keyD x, keysD xs with
    | some k, some ks => some (k :: ks)
    | _, _ => none
/-- a tuple as a key: no pair of ints (such a one may be a constant of the text) -/
def tkeyD : D → Option (List Key)
  | .tup xs => if fracB xs then none else keysD xs
  | _ => none
def seqD : D → Option (List D)
  | .lst xs => some xs
  | .tup xs => some xs
  | .e0 => some []
  | .scr ns => some (ns.map .int)
  | _ => none
def getK {κ : Type} [DecidableEq κ] (kvs : List (κ × D)) (k : κ) : Option D := (kvs.find? fun kv => decide (kv.1 = k)).map (·.2)
def putKD {κ : Type} [DecidableEq κ] (kvs : List (κ × D)) (k : κ) (v : D) : List (κ × D) :=
  if kvs.any (fun kv => decide (kv.1 = k)) then kvs.map (fun kv => if kv.1 = k then (kv.1, v) else kv) else kvs ++ [(k, v)]
def inD (x c : D) : Option Bool := match c with
  | .str t => match x with
    | .str s => some (!(Builtin.Str.occurrences t s 0 t.length 1).isEmpty)
    | _ => none
  | .dk kvs => match keyD x with
    | some k => some (getK kvs k).isSome
    | none => none
  | .dt kvs => match tkeyD x with
    | some k => some (getK kvs k).isSome
    | none => none
  | c => match seqD c with
    | some xs => if flatD x && xs.all flatD then some (xs.any fun y => eqFlat y x) else none
    | none => none
def cmpD : CmpOp → D → D → Option Bool
  | .Eq, a, b => eqD a b
  | .NotEq, a, b => (eqD a b).map (!·)
  | .In, a, b => inD a b
  | .NotIn, a, b => (inD a b).map (!·)
  | .Lt, .int i, .int j => some (decide (i < j))
  | .LtE, .int i, .int j => some (decide (i ≤ j))
  | .Gt, .int i, .int j => some (decide (j < i))
  | .GtE, .int i, .int j => some (decide (j ≤ i))
  | .Lt, .str i, .str j => some (decide (i.cps.toList < j.cps.toList))
  | _, _, _ => none
def idxD (a b : D) : Option D := match a with
  | .str t => match b with
    | .int i => if t.length ≤ big then (atI t.cps.toList i).map fun c => .str ⟨#[c]⟩ else none
    | _ => none
  | .dk kvs => match keyD b with
    | some k => getK kvs k
    | none => none
  | .dt kvs => match tkeyD b with
    | some k => getK kvs k
    | none => none
  | a => match seqD a, b with
    | some xs, .int i => atI xs i
    | _, _ => none
def cutD {α : Type} (xs : List α) (lo hi : Option Int) : List α := (xs.drop (HT.sIx xs.length 0 lo)).take (HT.sIx xs.length xs.length hi - HT.sIx xs.length 0 lo)
def slcD (a : D) (lo hi : Option Int) : Option D := match a with
  | .lst xs => some (.lst (cutD xs lo hi))
  | .tup xs => some (.tup (cutD xs lo hi))
  | _ => none
def fldD (flds : Str → List Str) (f : Str) : D → Option D
  | .ins c fs => if (flds c).contains f then fs.lookup f else none
  | _ => none
def tyB : Ty → D → Bool
  | .int, .int _ => true
  | .int, .bl _ => true
  | .bool, .bl _ => true
  | .str, .str _ => true
  | .list, .lst _ => true
  | .list, .scr _ => true
  | .tuple, .tup _ => true
  | .tuple, .e0 => true
  | .dict, .dk _ => true
  | .dict, .dt _ => true
  | .own c, .ins c' _ => decide (c' = c)
  | _, _ => false
def tyOk (cls : List Str) : Ty → Bool
  | .own c => cls.contains c
  | _ => true
def daOk (cls : List Str) : D → Bool
  | .ins c _ => cls.contains c
  | .hd _ => false
  | _ => true
def isTys (cls : List Str) (d : D) (ts : List Ty) : Option Bool := if daOk cls d && ts.all (tyOk cls) then some (ts.any fun t => tyB t d) else none
def boolsD : List D → Option (List Bool)
  | [] => some []
  | .bl b :: xs => (boolsD xs).map (b :: ·)
  | _ :: _ => none
def strsD : List D → Option (List Str)
  | [] => some []
  | .str b :: xs => (strsD xs).map (b :: ·)
  | _ :: _ => none
def intsD : List D → Option (List Int)
  | [] => some []
  | .int b :: xs => (intsD xs).map (b :: ·)
  | _ :: _ => none
/-- a tuple of texts -/
def tupsD : List D → Option (List (List Str))
  | [] => some []
  | .tup b :: xs => match strsD b, tupsD xs with
    | some s, some r => some (s :: r)
    | _, _ => none
  | _ :: _ => none
def leS (a b : Str) : Bool := decide (¬ b.cps.toList < a.cps.toList)
def leSs : List Str → List Str → Bool
  | [], _ => true
  | _ :: _, [] => false
  | a :: as, b :: bs => if a = b then leSs as bs else leS a b
def pairsD : List D → Option (List (Key × D))
  | [] => some []
  | .tup [k, v] :: xs => match keyD k, pairsD xs with
    | some k, some r => some ((k, v) :: r)
    | _, _ => none
  | _ :: _ => none
/-- pairs whose firsts are tuples -/
def tpairsD : List D → Option (List (List Key × D))
  | [] => some []
  | .tup [k, v] :: xs => match tkeyD k, tpairsD xs with
    | some k, some r => some ((k, v) :: r)
    | _, _ => none
  | _ :: _ => none
def mergeD {κ : Type} [DecidableEq κ] (kvs more : List (κ × D)) : List (κ × D) := more.foldl (fun acc kv => putKD acc kv.1 kv.2) kvs
def kD : Key → D
  | .inl i => .int i
  | .inr s => .str s
def lenD : D → Option D
  | .str s => if s.length ≤ big then some (.int s.length) else none
  | .dk kvs => some (.int kvs.length)
  | .dt kvs => some (.int kvs.length)
  | d => (seqD d).map fun xs => .int xs.length
def listD : D → Option D
  | .dk kvs => some (.lst (kvs.map fun kv => kD kv.1))
  | d => (seqD d).map .lst
def biD : Bi → List D → Option D
  | .len, [d] => lenD d
  | .abs, [.int i] => some (.int (if i < 0 then -i else i))
  | .all, [.lst xs] => (boolsD xs).map fun bs => .bl (bs.all id)
  | .any, [.lst xs] => (boolsD xs).map fun bs => .bl (bs.any id)
  | .int, [.int i] => some (.int i)
  | .int, [.bl b] => some (.int (if b then 1 else 0))
  | .str, [.str s] => some (.str s)
  | .str, [.int i] => if i.natAbs.log2 < 1920 then some (.str (toString i)) else none
  | .list, [d] => listD d
  | .tuple, [.lst xs] => some (.tup xs)
  | .tuple, [.tup xs] => some (.tup xs)
  | .dict, [.dk kvs] => some (.dk kvs)
  | .dict, [.lst xs] => match pairsD xs with
    | some kvs => some (.dk (mergeD [] kvs))
    | none => (tpairsD xs).map fun kvs => .dt (mergeD [] kvs)
  | .sorted, [.lst xs] => match strsD xs with
    | some ss => if ss.length < 64 then some (.lst ((ss.mergeSort leS).map .str)) else none
    | none => match tupsD xs with
      | some ts => if ts.length ≤ 1 ∨ ts.all (fun t => !t.isEmpty) = true then some (.lst ((ts.mergeSort leSs).map fun t => .tup (t.map .str))) else none
      | none => none
  | .sum, [.lst xs] => (intsD xs).map fun ns => .int ns.sum
  | _, _ => none
def leI (a b : Int) : Bool := decide (a ≤ b)
/-- each thing once -/
def once {α : Type} [DecidableEq α] : List α → List α
  | [] => []
  | x :: xs => if x ∈ once xs then once xs else x :: once xs
def ssetD : D → Option D
  | .lst xs => match strsD xs with
    | some ss => if ss.length < 64 then some (.lst (((once ss).mergeSort leS).map .str)) else none
    | none => match intsD xs with
      | some ns => if ns.length < 4000 ∧ (once ns).length < 64 then some (.lst (((once ns).mergeSort leI).map .int)) else none
      | none => match tupsD xs with
      | some ts => if ts.length < 64 ∧ ts.all (fun t => !t.isEmpty) = true then some (.lst (((once ts).mergeSort leSs).map fun t => .tup (t.map .str))) else none
      | none => none
  | _ => none
/-- lists -/
def lstD : D → Option (List D)
  | .lst xs => some xs
  | .scr ns => some (ns.map .int)
  | _ => none
/-- tuples -/
def tupD : D → Option (List D)
  | .tup xs => some xs
  | .e0 => some []
  | _ => none
/-- two lists, two tuples -/
def zipD2 (a b : D) : Option (List D) := match lstD a, lstD b with
  | some xs, some ys => some (List.zipWith (fun x y => .tup [x, y]) xs ys)
  | _, _ => match tupD a, tupD b with
    | some xs, some ys => some (List.zipWith (fun x y => .tup [x, y]) xs ys)
    | _, _ => none
/-- two lists -/
def zipL (a b : D) : Option (List D) := match lstD a, lstD b with
  | some xs, some ys => some (List.zipWith (fun x y => .tup [x, y]) xs ys)
  | _, _ => none
/-- what an instance goes through: the keys of one of its fields -/
def instD (its : Str → Option Str) (c : Str) : D → Option (List D)
  | .ins c' fs => if c' = c then (match its c with
    | some f => (match fs.lookup f with
      | some (.dk kvs) => some (kvs.map fun kv => kD kv.1)
      | _ => none)
    | none => none) else none
  | _ => none
def joinD (sep : Str) (ss : List Str) : Str := Txt.join sep ss
/-- the things that a for goes through -/
def iterD : D → Option (List D)
  | .dk kvs => some (kvs.map fun kv => kD kv.1)
  | .dt kvs => if kvs.all (fun kv => decide (kv.1.length ≤ big)) then some (kvs.map fun kv => .tup (kv.1.map kD)) else none
  | .str s => some (s.cps.toList.map fun c => .str ⟨#[c]⟩)
  | d => seqD d
def itemsD : D → Option (List D)
  | .dk kvs => some (kvs.map fun kv => .tup [kD kv.1, kv.2])
  | _ => none
def valsD : D → Option (List D)
  | .dk kvs => some (kvs.map fun kv => kv.2)
  | _ => none
def setAll : List Nat → List D → Env → Option Env
  | [], [], ρ => some ρ
  | i :: is, d :: ds, ρ => setAll is ds (ρ.set i (some d))
  | _, _, _ => none
def bindT : Tg → D → Env → Option Env
  | .nm i, d, ρ => some (ρ.set i (some d))
  | .tp is, .tup ds, ρ => setAll is ds ρ
  | .tp _, _, _ => none
def wipeD (ρ : Env) : List Nat → Env
  | [] => ρ
  | v :: vs => (wipeD ρ vs).set v none
def putFD (f : Str) (v : D) : List (Str × D) → List (Str × D)
  | [] => [(f, v)]
  | (g, x) :: r => if g = f then (g, v) :: r else (g, x) :: putFD f v r
/-- methods that look alone -/
def methD : Mt → D → List D → Option D
  | .join, .str sep, [d] => match seqD d with
    | some xs => match strsD xs with
      | some ss => if (ss.map fun s => s.length + sep.length).sum ≤ big then some (.str (joinD sep ss)) else none
      | none => none
    | none => none
  | .get1, .dk kvs, [k] => (keyD k).map fun k => (getK kvs k).getD .non
  | .get2, .dk kvs, [k, x] => (keyD k).map fun k => (getK kvs k).getD x
  | .get1, .dt kvs, [k] => (tkeyD k).map fun k => (getK kvs k).getD .non
  | .get2, .dt kvs, [k, x] => (tkeyD k).map fun k => (getK kvs k).getD x
  | _, _, _ => none
/-- methods that change the object number k -/
def methM (k : Nat) (Ω : Sto) : Mt → List D → R D
  | .append, [d] => match Ω[k]? with
    | some (.lst xs) => if xs.length < big then .ok .non (Ω.set k (.lst (xs ++ [d]))) else .bad
    | _ => .bad
  | .extend, [d] => match Ω[k]?, lk Ω d with
    | some (.lst xs), .lst ys => if xs.length + ys.length ≤ big then .ok .non (Ω.set k (.lst (xs ++ ys))) else .bad
    | _, _ => .bad
  | .pop, [] => match Ω[k]? with
    | some (.lst xs) => match xs[xs.length - 1]? with
      | some y => .ok y (Ω.set k (.lst xs.dropLast))
      | none => .bad
    | _ => .bad
  | .popi, [.int i] => match Ω[k]? with
    | some (.lst xs) => match ixN xs.length i with
      | some j => match xs[j]? with
        | some y => if -(2 ^ 63) ≤ i ∧ i < 2 ^ 63 then .ok y (Ω.set k (.lst (xs.eraseIdx j))) else .bad
        | none => .bad
      | none => .bad
    | _ => .bad
  | .clear, [] => match Ω[k]? with
    | some (.lst xs) => .ok .non (Ω.set k (.lst []))
    | _ => .bad
  | _, _ => .bad
/-- what a method may be asked of -/
def recvOk : Mt → D → Bool
  | .join, .str _ => true
  | .get1, .dk _ => true
  | .get1, .dt _ => true
  | .get2, .dk _ => true
  | .get2, .dt _ => true
  | .append, .lst _ => true
  | .extend, .lst _ => true
  | .pop, .lst _ => true
  | .popi, .lst _ => true
  | .clear, .lst _ => true
  | _, _ => false
def lookM : Mt → Bool
  | .join => true
  | .get1 => true
  | .get2 => true
  | _ => false
def methX (m : Mt) (x : D) (ds : List D) (Ω : Sto) : R D := if lookM m then opt (methD m (lk Ω x) ds) Ω else match x with
  | .hd k => methM k Ω m ds
  | _ => .bad

/-! ### the functions that are known, the constants -/
structure FT where
  fn : Str → Option (List D → Sto → R D)
  dfl : Str → List D
  con : Str → Option D
  flds : Str → List Str
  cls : List Str
  its : Str → Option Str

/-- one turn of a comprehension gives something, or nothing -/
def lcD (turn : D → Sto → R (Option D)) : List D → List D → Sto → R (List D)
  | [], acc, Ω => .ok acc Ω
  | x :: xs, acc, Ω => (turn x Ω).nx.bind fun o Ω1 => match o with
    | none => lcD turn xs acc Ω1
    | some d => if acc.length < big then lcD turn xs (acc ++ [d]) Ω1 else .bad
def lc2D (turn : D → List D → Sto → R (List D)) : List D → List D → Sto → R (List D)
  | [], acc, Ω => .ok acc Ω
  | x :: xs, acc, Ω => (turn x acc Ω).nx.bind fun acc1 Ω1 => lc2D turn xs acc1 Ω1
def dcD (turn : D → Sto → R (Option (D × D))) : List D → List (Key × D) → Sto → R (List (Key × D))
  | [], acc, Ω => .ok acc Ω
  | x :: xs, acc, Ω => (turn x Ω).nx.bind fun o Ω1 => match o with
    | none => dcD turn xs acc Ω1
    | some (k, v) => match keyD k with
      | some k => if acc.length < big then dcD turn xs (putKD acc k v) Ω1 else .bad
      | none => .bad
def dtD (turn : D → Sto → R (Option (D × D))) : List D → List (List Key × D) → Sto → R (List (List Key × D))
  | [], acc, Ω => .ok acc Ω
  | x :: xs, acc, Ω => (turn x Ω).nx.bind fun o Ω1 => match o with
    | none => dtD turn xs acc Ω1
    | some (k, v) => match tkeyD k with
      | some k => if acc.length < big then dtD turn xs (putKD acc k v) Ω1 else .bad
      | none => .bad
def asBool (d : D) (Ω : Sto) : R Bool := match d with
  | .bl b => .ok b Ω
  | _ => .bad
def enD (xs : List D) : List D := xs.zipIdx.map fun p => .tup [.int p.2, p.1]
def rngD (lo hi : Int) : List D := (List.range (hi - lo).toNat).map fun (k : Nat) => .int (lo + (k : Int))
/-- an int that range takes (told so that it stops at once where the int is not known) -/
def inR : Int → Bool
  | .ofNat n => decide (n < 4611686018427387904)
  | .negSucc n => decide (n < 4611686018427387904)

mutual
def evE (ft : FT) : E → Env → Sto → R D
  | .var i, ρ, Ω => match ρ[i]? with
    | some (some d) => .ok d Ω
    | _ => .bad
  | .glo x, ρ, Ω => opt (ft.con x) Ω
  | .non, ρ, Ω => .ok .non Ω
  | .bl b, ρ, Ω => .ok (.bl b) Ω
  | .int i, ρ, Ω => .ok (.int i) Ω
  | .str s, ρ, Ω => .ok (.str s) Ω
  | .tup es, ρ, Ω => (evL ft es ρ Ω).bind fun ds Ω => if ds.length ≤ big then .ok (.tup ds) Ω else .bad
  | .lst es, ρ, Ω => (evL ft es ρ Ω).bind fun ds Ω => if ds.length ≤ big then .ok (.lst ds) Ω else .bad
  | .newl es, ρ, Ω => (evL ft es ρ Ω).bind fun ds Ω => if ds.length ≤ big then .ok (.hd Ω.length) (Ω ++ [.lst ds]) else .bad
  | .newk, ρ, Ω => .ok (.hd Ω.length) (Ω ++ [.dk []])
  | .newt, ρ, Ω => .ok (.hd Ω.length) (Ω ++ [.dt []])
  | .newb a, ρ, Ω => (evE ft a ρ Ω).bind fun x Ω => match listD (lk Ω x) with
    | some (.lst xs) => .ok (.hd Ω.length) (Ω ++ [.lst xs])
    | _ => .bad
  | .newc own tg s c e, ρ, Ω => (evSr ft s ρ Ω).bind fun xs Ω => (lcD (fun d Ω => match bindT tg d (wipeD ρ own) with
      | some ρ2 => (evC ft c ρ2 Ω).bind fun b Ω => if b then (evE ft e ρ2 Ω).bind fun y Ω => .ok (some y) Ω else .ok none Ω
      | none => .bad) xs [] Ω).bind fun ds Ω => .ok (.hd Ω.length) (Ω ++ [.lst ds])
  | .op2 o a b, ρ, Ω => (evE ft a ρ Ω).bind fun x Ω => (evE ft b ρ Ω).bind fun y Ω => opt (op2D o (lk Ω x) (lk Ω y)) Ω
  | .neg a, ρ, Ω => (evE ft a ρ Ω).bind fun x Ω => match x with
    | .int i => .ok (.int (-i)) Ω
    | _ => .bad
  | .not a, ρ, Ω => (evE ft a ρ Ω).bind fun x Ω => (asBool x Ω).bind fun b Ω => .ok (.bl (!b)) Ω
  | .and es, ρ, Ω => evAnd ft es ρ Ω
  | .or es, ρ, Ω => evOr ft es ρ Ω
  | .ite c a b, ρ, Ω => (evE ft c ρ Ω).bind fun x Ω => (asBool x Ω).bind fun t Ω => if t then evE ft a ρ Ω else evE ft b ρ Ω
  | .cmp o a b, ρ, Ω => (evE ft a ρ Ω).bind fun x Ω => (evE ft b ρ Ω).bind fun y Ω => (opt (cmpD o (lk Ω x) (lk Ω y)) Ω).bind fun b Ω => .ok (.bl b) Ω
  | .isn a, ρ, Ω => (evE ft a ρ Ω).bind fun x Ω => .ok (.bl (isNonD x)) Ω
  | .notn a, ρ, Ω => (evE ft a ρ Ω).bind fun x Ω => .ok (.bl (!isNonD x)) Ω
  | .chn o p a b c, ρ, Ω => (evE ft a ρ Ω).bind fun x Ω => (evE ft b ρ Ω).bind fun y Ω => (opt (cmpD o (lk Ω x) (lk Ω y)) Ω).bind fun t Ω =>
      if t then (evE ft c ρ Ω).bind fun z Ω => (opt (cmpD p (lk Ω y) (lk Ω z)) Ω).bind fun b Ω => .ok (.bl b) Ω else .ok (.bl false) Ω
  | .idx a b, ρ, Ω => (evE ft a ρ Ω).bind fun x Ω => (evE ft b ρ Ω).bind fun y Ω => opt (idxD (lk Ω x) y) Ω
  | .slc a lo hi, ρ, Ω => (evE ft a ρ Ω).bind fun x Ω => (evO ft lo ρ Ω).bind fun l Ω => (evO ft hi ρ Ω).bind fun h Ω => opt (slcD (lk Ω x) l h) Ω
  | .fld a f, ρ, Ω => (evE ft a ρ Ω).bind fun x Ω => opt (fldD ft.flds f (lk Ω x)) Ω
  | .call f es j, ρ, Ω => (evL ft es ρ Ω).bind fun ds Ω => match ft.fn f with
    | some g => g (ds ++ (ft.dfl f).drop j) Ω
    | none => .bad
  | .mk c q es j, ρ, Ω => (evL ft es ρ Ω).bind fun ds Ω => match ft.fn q with
    | some g => (g (.hd Ω.length :: (ds ++ (ft.dfl q).drop j)) (Ω ++ [.ins c []])).bind fun r Ω' => match r, Ω'[Ω.length]? with
      | .non, some (.ins c' fs) => if c' = c then .ok (.ins c fs) (Ω'.set Ω.length .dead) else .bad
      | _, _ => .bad
    | none => .bad
  | .mcall a c m q es j, ρ, Ω => (evE ft a ρ Ω).bind fun x Ω => match lk Ω x with
    | .ins c' fs => if c' = c then (if (fs.lookup m).isSome then .bad else (evL ft es ρ Ω).bind fun ds Ω => match ft.fn q with
      | some g => g (x :: (ds ++ (ft.dfl q).drop j)) Ω
      | none => .bad) else .bad
    | _ => .bad
  | .bi f es, ρ, Ω => (evL ft es ρ Ω).bind fun ds Ω => opt (biD f (ds.map (lk Ω))) Ω
  | .meth a m es, ρ, Ω => (evE ft a ρ Ω).bind fun x Ω => if recvOk m (lk Ω x) then (evL ft es ρ Ω).bind fun ds Ω => methX m x ds Ω else .bad
  | .isi a ts, ρ, Ω => (evE ft a ρ Ω).bind fun x Ω => (opt (isTys ft.cls (lk Ω x) ts) Ω).bind fun b Ω => .ok (.bl b) Ω
  | .sset a, ρ, Ω => (evE ft a ρ Ω).bind fun x Ω => opt (ssetD (lk Ω x)) Ω
  | .lzip a b, ρ, Ω => (evE ft a ρ Ω).bind fun x Ω => (evE ft b ρ Ω).bind fun y Ω => (opt (zipL (lk Ω x) (lk Ω y)) Ω).bind fun l Ω => if l.length ≤ big then .ok (.lst l) Ω else .bad
  | .lins a c, ρ, Ω => (evE ft a ρ Ω).bind fun x Ω => (opt (instD ft.its c x) Ω).bind fun l Ω => .ok (.lst l) Ω
  | .lc own tg s c e, ρ, Ω => (evSr ft s ρ Ω).bind fun xs Ω => (lcD (fun d Ω => match bindT tg d (wipeD ρ own) with
      | some ρ2 => (evC ft c ρ2 Ω).bind fun b Ω => if b then (evE ft e ρ2 Ω).bind fun y Ω => .ok (some y) Ω else .ok none Ω
      | none => .bad) xs [] Ω).bind fun ds Ω => .ok (.lst ds) Ω
  | .lc2 own own1 tg s tg1 s1 c e, ρ, Ω => (evSr ft s ρ Ω).bind fun xs Ω => (lc2D (fun d acc Ω => match bindT tg d (wipeD ρ own) with
      | some ρ1 => (evSr ft s1 ρ1 Ω).bind fun ys Ω => lcD (fun d1 Ω => match bindT tg1 d1 (wipeD ρ1 own1) with
        | some ρ2 => (evC ft c ρ2 Ω).bind fun b Ω => if b then (evE ft e ρ2 Ω).bind fun y Ω => .ok (some y) Ω else .ok none Ω
        | none => .bad) ys acc Ω
      | none => .bad) xs [] Ω).bind fun ds Ω => .ok (.lst ds) Ω
  | .dc own tg s c k v, ρ, Ω => (evSr ft s ρ Ω).bind fun xs Ω => (dcD (fun d Ω => match bindT tg d (wipeD ρ own) with
      | some ρ2 => (evC ft c ρ2 Ω).bind fun b Ω => if b then (evE ft k ρ2 Ω).bind fun y Ω => (evE ft v ρ2 Ω).bind fun z Ω => .ok (some (y, z)) Ω else .ok none Ω
      | none => .bad) xs [] Ω).bind fun kvs Ω => .ok (.dk kvs) Ω
  | .frz a, ρ, Ω => (evE ft a ρ Ω).bind fun x Ω => match x with
    | .hd k => match Ω[k]? with
      | some (.lst xs) => .ok (.lst xs) (Ω.set k .dead)
      | some (.dk kvs) => .ok (.dk kvs) (Ω.set k .dead)
      | some (.dt kvs) => .ok (.dt kvs) (Ω.set k .dead)
      | _ => .bad
    | _ => .bad
  | .nope, ρ, Ω => .bad
def evL (ft : FT) : EL → Env → Sto → R (List D)
  | .nil, ρ, Ω => .ok [] Ω
  | .cons e r, ρ, Ω => (evE ft e ρ Ω).bind fun d Ω => (evL ft r ρ Ω).bind fun ds Ω => .ok (d :: ds) Ω
def evO (ft : FT) : EO → Env → Sto → R (Option Int)
  | .none, ρ, Ω => .ok none Ω
  | .some e, ρ, Ω => (evE ft e ρ Ω).bind fun d Ω => match d with
    | .int i => .ok (some i) Ω
    | _ => .bad
def evC (ft : FT) : EO → Env → Sto → R Bool
  | .none, ρ, Ω => .ok true Ω
  | .some e, ρ, Ω => (evE ft e ρ Ω).bind fun d Ω => asBool d Ω
def evAnd (ft : FT) : EL → Env → Sto → R D
  | .nil, ρ, Ω => .bad
  | .cons e .nil, ρ, Ω => evE ft e ρ Ω
  | .cons e r, ρ, Ω => (evE ft e ρ Ω).bind fun x Ω => (asBool x Ω).bind fun b Ω => if b then evAnd ft r ρ Ω else .ok (.bl false) Ω
def evOr (ft : FT) : EL → Env → Sto → R D
  | .nil, ρ, Ω => .bad
  | .cons e .nil, ρ, Ω => evE ft e ρ Ω
  | .cons e r, ρ, Ω => (evE ft e ρ Ω).bind fun x Ω => (asBool x Ω).bind fun b Ω => if b then .ok (.bl true) Ω else evOr ft r ρ Ω
def evSr (ft : FT) : Sr → Env → Sto → R (List D)
  | .val e, ρ, Ω => (evE ft e ρ Ω).bind fun d Ω => opt (iterD d) Ω
  | .items e, ρ, Ω => (evE ft e ρ Ω).bind fun d Ω => opt (itemsD d) Ω
  | .vals e, ρ, Ω => (evE ft e ρ Ω).bind fun d Ω => opt (valsD d) Ω
  | .enum e, ρ, Ω => (evE ft e ρ Ω).bind fun d Ω => opt ((seqD d).map enD) Ω
  | .zip a b, ρ, Ω => (evE ft a ρ Ω).bind fun x Ω => (evE ft b ρ Ω).bind fun y Ω => opt (zipD2 x y) Ω
  | .inst e c, ρ, Ω => (evE ft e ρ Ω).bind fun d Ω => opt (instD ft.its c d) Ω
  | .rng a, ρ, Ω => (evE ft a ρ Ω).bind fun d Ω => match d with
    | .int j => if inR j then .ok (rngD 0 j) Ω else .bad
    | _ => .bad
  | .rng2 a b, ρ, Ω => (evE ft a ρ Ω).bind fun c Ω => (evE ft b ρ Ω).bind fun d Ω => match c, d with
    | .int i, .int j => if inR i && inR j then .ok (rngD i j) Ω else .bad
    | _, _ => .bad
end

/-! ### statements -/
inductive Fl where
  | nx (ρ : Env)
  | rt (d : D)
  | bk (ρ : Env)
  | ct (ρ : Env)
inductive RS where
  | ok (f : Fl) (Ω : Sto)
  | ex (x : Exn) (ρ : Env) (Ω : Sto)
  | bad
def R.st {α : Type} (r : R α) (ρ : Env) (f : α → Sto → RS) : RS := match r with
  | .ok a Ω => f a Ω
  | .ex x Ω => .ex x ρ Ω
  | .bad => .bad
def forD (turn : D → Env → Sto → RS) : List D → Env → Sto → RS
  | [], ρ, Ω => .ok (.nx ρ) Ω
  | x :: xs, ρ, Ω => match turn x ρ Ω with
    | .ok (.nx ρ') Ω' => forD turn xs ρ' Ω'
    | .ok (.ct ρ') Ω' => forD turn xs ρ' Ω'
    | .ok (.bk ρ') Ω' => .ok (.nx ρ') Ω'
    | r => r
def whlD (test : Env → Sto → R Bool) (body : Env → Sto → RS) : Nat → Env → Sto → RS
  | 0, _, _ => .bad
  | n + 1, ρ, Ω => (test ρ Ω).st ρ fun b Ω => if b then (match body ρ Ω with
      | .ok (.nx ρ') Ω' => whlD test body n ρ' Ω'
      | .ok (.ct ρ') Ω' => whlD test body n ρ' Ω'
      | .ok (.bk ρ') Ω' => .ok (.nx ρ') Ω'
      | r => r) else .ok (.nx ρ) Ω
/-- the turns that a while may have -/
def fuel : Nat := 1000000
def evT (ft : FT) (e : E) (ρ : Env) (Ω : Sto) : R Bool := (evE ft e ρ Ω).bind asBool
mutual
def exS (ft : FT) : S → Env → Sto → RS
  | .asg tg e, ρ, Ω => (evE ft e ρ Ω).st ρ fun d Ω => match bindT tg d ρ with
    | some ρ' => .ok (.nx ρ') Ω
    | none => .bad
  | .par is es, ρ, Ω => (evL ft es ρ Ω).st ρ fun ds Ω => match setAll is ds ρ with
    | some ρ' => .ok (.nx ρ') Ω
    | none => .bad
  | .fset a f e, ρ, Ω => (evE ft e ρ Ω).st ρ fun d Ω => (evE ft a ρ Ω).st ρ fun x Ω => match x with
    | .hd k => match Ω[k]? with
      | some (.ins c fs) => if fs.length < 1000 ∧ (ft.flds c).contains f = true then .ok (.nx ρ) (Ω.set k (.ins c (putFD f d fs))) else .bad
      | _ => .bad
    | _ => .bad
  | .iset a b e, ρ, Ω => (evE ft e ρ Ω).st ρ fun d Ω => (evE ft a ρ Ω).st ρ fun x Ω => (evE ft b ρ Ω).st ρ fun y Ω => match x with
    | .hd k => match Ω[k]? with
      | some (.lst xs) => match y with
        | .int i => match ixN xs.length i with
          | some j => .ok (.nx ρ) (Ω.set k (.lst (xs.set j d)))
          | none => .bad
        | _ => .bad
      | some (.dk kvs) => match keyD y with
        | some q => if kvs.length < big then .ok (.nx ρ) (Ω.set k (.dk (putKD kvs q d))) else .bad
        | none => .bad
      | some (.dt kvs) => match tkeyD y with
        | some q => if kvs.length < big then .ok (.nx ρ) (Ω.set k (.dt (putKD kvs q d))) else .bad
        | none => .bad
      | _ => .bad
    | _ => .bad
  | .expr e, ρ, Ω => (evE ft e ρ Ω).st ρ fun _ Ω => .ok (.nx ρ) Ω
  | .ret e, ρ, Ω => (evE ft e ρ Ω).st ρ fun d Ω => .ok (.rt d) Ω
  | .retN, ρ, Ω => .ok (.rt .non) Ω
  | .ife c t f, ρ, Ω => (evT ft c ρ Ω).st ρ fun b Ω => if b then exL ft t ρ Ω else exL ft f ρ Ω
  | .for tg s b, ρ, Ω => (evSr ft s ρ Ω).st ρ fun xs Ω => forD (fun d ρ Ω => match bindT tg d ρ with
    | some ρ' => exL ft b ρ' Ω
    | none => .bad) xs ρ Ω
  | .whl c b, ρ, Ω => whlD (fun ρ Ω => evT ft c ρ Ω) (fun ρ Ω => exL ft b ρ Ω) fuel ρ Ω
  | .raise c es, ρ, Ω => .bad
  | .brk, ρ, Ω => .ok (.bk ρ) Ω
  | .cnt, ρ, Ω => .ok (.ct ρ) Ω
  | .pass, ρ, Ω => .ok (.nx ρ) Ω
  | .nope, ρ, Ω => .bad
def exL (ft : FT) : SL → Env → Sto → RS
  | .nil, ρ, Ω => .ok (.nx ρ) Ω
  | .cons s r, ρ, Ω => match exS ft s ρ Ω with
    | .ok (.nx ρ') Ω' => exL ft r ρ' Ω'
    | q => q
end
/-- a def: its parameters, its names, its body -/
def runD (ft : FT) (np n : Nat) (b : SL) (ds : List D) (Ω : Sto) : R D := if ds.length = np then (match exL ft b (ds.map some ++ List.replicate (n - ds.length) none) Ω with
  | .ok (.nx _) Ω' => .ok .non Ω'
  | .ok (.rt d) Ω' => .ok d Ω'
  | .ex x _ Ω' => .ex x Ω'
  | _ => .bad) else .bad
end Rf
end
section
namespace Rf
open PySem L2

/-! ### slots -/
def REnv (K : Frg) (G : Hp) (μ : Mu) (n : Nat) (ρ : Env) (σ : St) : Prop := ρ.length = σ.length ∧ ∀ (i : Nat) (d : D), ρ[i]? = some (some d) → ∃ v, σ[i]? = some (some v) ∧ Rep K G μ n d v
theorem REnv.tr {K : Frg} {G G' : Hp} {μ μ' : Mu} {n n' : Nat} (t : Tr K G μ n G' μ' n') {ρ : Env} {σ : St} (h : REnv K G μ n ρ σ) : REnv K G' μ' n' ρ σ :=
  ⟨h.1, fun i d e => let ⟨v, e1, r⟩ := h.2 i d e; ⟨v, e1, Rep.tr t d v r⟩⟩
theorem REnv.set {K : Frg} {G : Hp} {μ : Mu} {n : Nat} {ρ : Env} {σ : St} (h : REnv K G μ n ρ σ) (i : Nat) {d : D} {v : V} (r : Rep K G μ n d v) : REnv K G μ n (ρ.set i (some d)) (σ.set i (some v)) := by
  refine ⟨by rw [List.length_set, List.length_set]; exact h.1, fun j d' e => ?_⟩
  by_cases hj : j = i
  · subst hj
    have hl := (List.getElem?_eq_some_iff.mp e).1
    rw [List.length_set] at hl
    rw [List.getElem?_set_self hl] at e
    cases e
    exact ⟨v, List.getElem?_set_self (by rw [← h.1]; exact hl), r⟩
  · rw [List.getElem?_set_ne (Ne.symm hj)] at e
    obtain ⟨u, e1, r1⟩ := h.2 j d' e
    exact ⟨u, by rw [List.getElem?_set_ne (Ne.symm hj)]; exact e1, r1⟩
theorem REnv.unset {K : Frg} {G : Hp} {μ : Mu} {n : Nat} {ρ : Env} {σ : St} (h : REnv K G μ n ρ σ) (i : Nat) : REnv K G μ n (ρ.set i none) (σ.set i none) := by
  refine ⟨by rw [List.length_set, List.length_set]; exact h.1, fun j d' e => ?_⟩
  by_cases hj : j = i
  · subst hj
    have hl := (List.getElem?_eq_some_iff.mp e).1
    rw [List.length_set] at hl
    rw [List.getElem?_set_self hl] at e
    cases e
  · rw [List.getElem?_set_ne (Ne.symm hj)] at e
    obtain ⟨u, e1, r1⟩ := h.2 j d' e
    exact ⟨u, by rw [List.getElem?_set_ne (Ne.symm hj)]; exact e1, r1⟩
theorem REnv.wipe {K : Frg} {G : Hp} {μ : Mu} {n : Nat} {ρ : Env} {σ : St} (h : REnv K G μ n ρ σ) : ∀ vs : List Nat, REnv K G μ n (wipeD ρ vs) (wipe σ vs)
  | [] => h
  | v :: vs => (h.wipe vs).unset v

/-! ### what is wanted behind a run -/
def XRep (K : Frg) (H : Hp) (μ : Mu) (Ω : Sto) (x : Exn) (d : Option Addr) : Prop :=
  (x.fs = [] ∧ d = none) ∨ ∃ dx ws, d = some dx ∧ H dx = some (.xd ws) ∧ RepS K (Fz H μ Ω) μ Ω.length x.fs ws
abbrev Rl (α β : Type) := Hp → Mu → Sto → α → β → Prop
def Post {α β : Type} (K : Frg) (rel : Rl α β) (W : WX) (σ : St) (H : Hp) (μ : Mu) (Ω : Sto) (r : R α) (Q : β → Hp → Prop) : Prop := match r with
  | .ok a Ω' => ∀ b H' μ', Ext K H μ Ω H' μ' Ω' → rel H' μ' Ω' a b → Q b H'
  | .ex x Ω' => ∀ d H' μ', Ext K H μ Ω H' μ' Ω' → XRep K H' μ' Ω' x d → W (.ref (He.ga K x.cls)) d σ H'
  | .bad => False
def rD (K : Frg) : Rl D V := fun H μ Ω d v => Rep K (Fz H μ Ω) μ Ω.length d v
def rL (K : Frg) : Rl (List D) (List V) := fun H μ Ω d v => Reps K (Fz H μ Ω) μ Ω.length d v
def rQ {α : Type} : Rl α α := fun _ _ _ a b => a = b
/-- where one stands: the store, the slots -/
structure At (K : Frg) (σ : St) (H : Hp) (μ : Mu) (Ω : Sto) (ρ : Env) : Prop where
  wf : Wf K H μ Ω
  env : REnv K (Fz H μ Ω) μ Ω.length ρ σ
section
variable {K : Frg} {W : WX} {σ : St} {H H' : Hp} {μ μ' : Mu} {Ω Ω' : Sto} {ρ : Env} {α β γ δ : Type}
theorem At.ext (a : At K σ H μ Ω ρ) (e : Ext K H μ Ω H' μ' Ω') : At K σ H' μ' Ω' ρ := ⟨e.wf, a.env.tr e.tr⟩
theorem Post.mono {rel : Rl α β} {r : R α} {Q Q' : β → Hp → Prop} (h : ∀ b H', Q b H' → Q' b H') (p : Post K rel W σ H μ Ω r Q) : Post K rel W σ H μ Ω r Q' := by
  cases r with
  | ok a Ω' => exact fun b H' μ' e q => h b H' (p b H' μ' e q)
  | ex x Ω' => exact p
  | bad => exact p
/-- a run that goes on: the first part's post, then the rest's from there -/
theorem Post.bind {rel : Rl α β} {rel' : Rl γ δ} {r : R α} {f : α → Sto → R γ} {Q : δ → Hp → Prop} (p : Post K rel' W σ H μ Ω (r.bind f) Q) :
    Post K rel W σ H μ Ω r (fun b H1 => ∃ μ1 Ω1 a, r = .ok a Ω1 ∧ Ext K H μ Ω H1 μ1 Ω1 ∧ rel H1 μ1 Ω1 a b ∧ Post K rel' W σ H1 μ1 Ω1 (f a Ω1) Q) := by
  cases r with
  | ok a Ω' =>
    intro b H' μ' e q
    refine ⟨μ', Ω', a, rfl, e, q, ?_⟩
    have p' : Post K rel' W σ H μ Ω (f a Ω') Q := p
    cases hf : f a Ω' with
    | ok c Ω2 =>
      rw [hf] at p'
      exact fun b H2 μ2 e2 q2 => p' b H2 μ2 (e.trans e2) q2
    | ex x Ω2 =>
      rw [hf] at p'
      exact fun d H2 μ2 e2 q2 => p' d H2 μ2 (e.trans e2) q2
    | bad =>
      rw [hf] at p'
      exact p'
  | ex x Ω' => exact p
  | bad => exact p
/-- a run that is done -/
theorem Post.here {rel : Rl α β} {a : α} {Q : β → Hp → Prop} (p : Post K rel W σ H μ Ω (.ok a Ω) Q) (w : Wf K H μ Ω) {b : β} (r : rel H μ Ω a b) : Q b H := p b H μ (Ext.refl w) r
theorem Post.at_ {rel : Rl α β} {a : α} {Q : β → Hp → Prop} (p : Post K rel W σ H μ Ω (.ok a Ω') Q) {b : β} (e : Ext K H μ Ω H' μ' Ω') (r : rel H' μ' Ω' a b) : Q b H' := p b H' μ' e r
theorem Post.ne {rel : Rl α β} {Q : β → Hp → Prop} (p : Post K rel W σ H μ Ω (.bad : R α) Q) {P : Prop} : P := False.elim p
end

/-! ### readings -/
def TEv (K : Frg) (W : WX) (ft : FT) (e : E) : TE := fun σ H Q => ∃ μ Ω ρ, At K σ H μ Ω ρ ∧ Post K (rD K) W σ H μ Ω (evE ft e ρ Ω) Q
def TTv (K : Frg) (W : WX) (ft : FT) (e : E) : TT := fun σ H Q => ∃ μ Ω ρ, At K σ H μ Ω ρ ∧ Post K rQ W σ H μ Ω (evT ft e ρ Ω) Q
def TAv (K : Frg) (W : WX) (ft : FT) (es : EL) : TA := fun σ H Q => ∃ μ Ω ρ, At K σ H μ Ω ρ ∧ Post K (rL K) W σ H μ Ω (evL ft es ρ Ω) Q
def TOv (K : Frg) (W : WX) (ft : FT) (e : EO) : L2.TO := fun σ H Q => ∃ μ Ω ρ, At K σ H μ Ω ρ ∧ Post K rQ W σ H μ Ω (evO ft e ρ Ω) Q
def TCv (K : Frg) (W : WX) (ft : FT) (e : EO) : TT := fun σ H Q => ∃ μ Ω ρ, At K σ H μ Ω ρ ∧ Post K rQ W σ H μ Ω (evC ft e ρ Ω) Q
/-- an iterator goes through the things xs -/
structure ItRep (K : Frg) (J : It) (H : Hp) (μ : Mu) (Ω : Sto) (xs : List D) : Prop where
  stop : ∀ i H' μ' Ω', Lat K H μ Ω H' μ' Ω' → xs.length ≤ i → J.stop i H'
  go : ∀ i H' μ' Ω', Lat K H μ Ω H' μ' Ω' → i < xs.length → J.go i H'
  yld : ∀ i H' μ' Ω' v H'' d, Lat K H μ Ω H' μ' Ω' → xs[i]? = some d → J.yld i H' v H'' → (∀ a o, H' a = some o → H'' a = some o) ∧ Ext K H' μ' Ω' H'' μ' Ω' ∧ Rep K (Fz H'' μ' Ω') μ' Ω'.length d v
def rI (K : Frg) : Rl (List D) It := fun H μ Ω xs J => ItRep K J H μ Ω xs
def TIv (K : Frg) (W : WX) (ft : FT) (s : Sr) : TI := fun σ H R => ∃ μ Ω ρ, At K σ H μ Ω ρ ∧ Post K (rI K) W σ H μ Ω (evSr ft s ρ Ω) R

/-- behind a statement -/
def PostS (K : Frg) (W : WX) (H : Hp) (μ : Mu) (Ω : Sto) (r : RS) (D : Ends) : Prop := match r with
  | .ok (.nx ρ) Ω' => ∀ σ' H' μ', Ext K H μ Ω H' μ' Ω' → REnv K (Fz H' μ' Ω') μ' Ω'.length ρ σ' → D.nx σ' H'
  | .ok (.bk ρ) Ω' => ∀ σ' H' μ', Ext K H μ Ω H' μ' Ω' → REnv K (Fz H' μ' Ω') μ' Ω'.length ρ σ' → D.bk σ' H'
  | .ok (.ct ρ) Ω' => ∀ σ' H' μ', Ext K H μ Ω H' μ' Ω' → REnv K (Fz H' μ' Ω') μ' Ω'.length ρ σ' → D.ct σ' H'
  | .ok (.rt d) Ω' => ∀ v H' μ', Ext K H μ Ω H' μ' Ω' → Rep K (Fz H' μ' Ω') μ' Ω'.length d v → D.rt v H'
  | .ex x ρ Ω' => ∀ σ' d H' μ', Ext K H μ Ω H' μ' Ω' → REnv K (Fz H' μ' Ω') μ' Ω'.length ρ σ' → XRep K H' μ' Ω' x d → W (.ref (He.ga K x.cls)) d σ' H'
  | .bad => False
def TSv (K : Frg) (W : WX) (ft : FT) (s : S) : TS := fun D σ H => ∃ μ Ω ρ, At K σ H μ Ω ρ ∧ PostS K W H μ Ω (exS ft s ρ Ω) D
def TLv (K : Frg) (W : WX) (ft : FT) (s : SL) : TS := fun D σ H => ∃ μ Ω ρ, At K σ H μ Ω ρ ∧ PostS K W H μ Ω (exL ft s ρ Ω) D
section
variable {K : Frg} {W : WX} {σ : St} {H H' : Hp} {μ μ' : Mu} {Ω Ω' : Sto} {ρ : Env} {α β γ δ : Type}
theorem PostS.ext {r : RS} {D : Ends} (e : Ext K H μ Ω H' μ' Ω') (p : PostS K W H μ Ω r D) : PostS K W H' μ' Ω' r D := by
  cases r with
  | ok f Ω2 =>
    cases f with
    | nx ρ => exact fun σ2 H2 μ2 e2 q => p σ2 H2 μ2 (e.trans e2) q
    | bk ρ => exact fun σ2 H2 μ2 e2 q => p σ2 H2 μ2 (e.trans e2) q
    | ct ρ => exact fun σ2 H2 μ2 e2 q => p σ2 H2 μ2 (e.trans e2) q
    | rt d => exact fun v H2 μ2 e2 q => p v H2 μ2 (e.trans e2) q
  | ex x ρ Ω2 => exact fun σ2 d H2 μ2 e2 q q' => p σ2 d H2 μ2 (e.trans e2) q q'
  | bad => exact p
theorem PostS.mono {r : RS} {D D' : Ends} (h1 : ∀ σ H, D.nx σ H → D'.nx σ H) (h2 : ∀ v H, D.rt v H → D'.rt v H) (h3 : ∀ σ H, D.bk σ H → D'.bk σ H) (h4 : ∀ σ H, D.ct σ H → D'.ct σ H) (p : PostS K W H μ Ω r D) : PostS K W H μ Ω r D' := by
  cases r with
  | ok f Ω2 =>
    cases f with
    | nx ρ => exact fun σ2 H2 μ2 e2 q => h1 _ _ (p σ2 H2 μ2 e2 q)
    | bk ρ => exact fun σ2 H2 μ2 e2 q => h3 _ _ (p σ2 H2 μ2 e2 q)
    | ct ρ => exact fun σ2 H2 μ2 e2 q => h4 _ _ (p σ2 H2 μ2 e2 q)
    | rt d => exact fun v H2 μ2 e2 q => h2 _ _ (p v H2 μ2 e2 q)
  | ex x ρ Ω2 => exact p
  | bad => exact p
/-- an expression, then the statement's rest -/
theorem PostS.st {rel : Rl α β} {r : R α} {f : α → Sto → RS} {D : Ends} (a : At K σ H μ Ω ρ) (p : PostS K W H μ Ω (r.st ρ f) D) :
    Post K rel W σ H μ Ω r (fun b H1 => ∃ μ1 Ω1 x, r = .ok x Ω1 ∧ Ext K H μ Ω H1 μ1 Ω1 ∧ rel H1 μ1 Ω1 x b ∧ PostS K W H1 μ1 Ω1 (f x Ω1) D) := by
  cases r with
  | ok x Ω' => exact fun b H' μ' e q => ⟨μ', Ω', x, rfl, e, q, PostS.ext (r := f x Ω') e p⟩
  | ex x Ω' => exact fun d H' μ' e q => p σ d H' μ' e (a.env.tr e.tr) q
  | bad => exact p
end

/-! ### readings that imply one another -/
section
variable {X : Cx} {e : Expr} {st : Stmt} {sts : List Stmt}
theorem _root_.L2.PE.imp {t t' : TE} (h : PE X e t) (i : ∀ σ H Q, t' σ H Q → t σ H Q) : PE X e t' := ⟨fun pins s σ H Q I q => h.run pins s σ H Q I (i σ H Q q)⟩
theorem _root_.L2.PT.imp {t t' : TT} (h : PT X e t) (i : ∀ σ H Q, t' σ H Q → t σ H Q) : PT X e t' := ⟨fun pins s σ H Q I q => h.run pins s σ H Q I (i σ H Q q)⟩
theorem _root_.L2.PW.imp {t t' : TT} (h : PW X e t) (i : ∀ σ H Q, t' σ H Q → t σ H Q) : PW X e t' := ⟨fun w pins s σ H Q I q => h.run w pins s σ H Q I (i σ H Q q)⟩
theorem _root_.L2.PA.imp {es : List Expr} {t t' : TA} (h : PA X es t) (i : ∀ σ H Q, t' σ H Q → t σ H Q) : PA X es t' := ⟨fun pos pins s σ H Q I q => h.run pos pins s σ H Q I (i σ H Q q)⟩
theorem _root_.L2.PS.imp {t t' : TS} (h : PS X st t) (i : ∀ D σ H, t' D σ H → t D σ H) : PS X st t' := ⟨fun pins s σ H D I q => h.run pins s σ H D I (i D σ H q)⟩
theorem _root_.L2.PSs.imp {t t' : TS} (h : PSs X sts t) (i : ∀ D σ H, t' D σ H → t D σ H) : PSs X sts t' := ⟨fun pins s σ H D I q => h.run pins s σ H D I (i D σ H q)⟩
theorem _root_.L2.PI.imp {tg : Expr} {t t' : TI} (h : PI X tg e t) (i : ∀ σ H Q, t' σ H Q → t σ H Q) : PI X tg e t' := ⟨fun pins s σ H Q I q => h.run pins s σ H Q I (i σ H Q q)⟩
theorem _root_.L2.PI.or {tg : Expr} {t t' : TI} (h : PI X tg e t) (h' : PI X tg e t') : PI X tg e (fun σ H R => t σ H R ∨ t' σ H R) := ⟨fun pins s σ H Q I q => q.elim (h.run pins s σ H Q I) (h'.run pins s σ H Q I)⟩
theorem _root_.L2.PE.or {t t' : TE} (h : PE X e t) (h' : PE X e t') : PE X e (fun σ H R => t σ H R ∨ t' σ H R) := ⟨fun pins s σ H Q I q => q.elim (h.run pins s σ H Q I) (h'.run pins s σ H Q I)⟩
theorem _root_.L2.PS.or {t t' : TS} (h : PS X st t) (h' : PS X st t') : PS X st (fun D σ H => t D σ H ∨ t' D σ H) := ⟨fun pins s σ H Q I q => q.elim (h.run pins s σ H Q I) (h'.run pins s σ H Q I)⟩
/-- a dict that is new is known from now on -/
theorem _root_.L2.PE.lock {t : TE} (h : PE X e t) : PE X e (fun σ H Q => t σ H fun v H1 => ∃ p u, v = .ref p ∧ H1 p = some u ∧ Mut (some u) ∧ ∀ od, Q v (upd H1 p (.frz od u))) := by
  refine ⟨fun pins s σ H Q I q => thn (h.run pins s σ H _ I q) fun v s1 ⟨x, H1, I1, r1, p, u, e1, e2, m, k⟩ => ?_⟩
  obtain ⟨od, I2⟩ := I1.lock e2 m
  exact ⟨x, _, I2, r1, k od⟩
end
end Rf
end
section
namespace Rf
open PySem L2
theorem big_eq : big = sizeLine := by rw [sizeLine_eq]; rfl

/-! ### what is seen of a value, handles looked through -/
def View (K : Frg) (H : Hp) (μ : Mu) (Ω : Sto) : D → V → Prop
  | .lst xs, v => ∃ p vs, v = .ref p ∧ Reps K (Fz H μ Ω) μ Ω.length xs vs ∧ vs.length ≤ sizeLine ∧ H p = some (.lst vs)
  | .dk kvs, v => ∃ p ws, v = .ref p ∧ RepK K (Fz H μ Ω) μ Ω.length kvs ws ∧ Rd H p (.dK ws)
  | .dt kvs, v => ∃ p ws, v = .ref p ∧ RepT K (Fz H μ Ω) μ Ω.length kvs ws ∧ Rd H p (.dT ws)
  | .ins c fs, v => ∃ p dx ws, v = .ref p ∧ RepS K (Fz H μ Ω) μ Ω.length fs ws ∧ H p = some (.ins (He.ga K c) dx ws)
  | .tup xs, v => ∃ p vs, v = .ref p ∧ Reps K (Fz H μ Ω) μ Ω.length xs vs ∧ vs.length ≤ sizeLine ∧ SqT K H p vs ∧ (fracB xs = false → H p = some (.tup vs)) ∧ Rep K (Fz H μ Ω) μ Ω.length (.tup xs) v
  | .e0, v => ∃ p, v = .ref p ∧ SqT K H p []
  | .scr ns, v => ∃ p, v = .ref p ∧ ns.length ≤ 63 ∧ SqL K H p (ns.map V.int)
  | .hd k, v => v = .ref (μ k)
  | .non, v => v = .non
  | .bl b, v => v = .bl b
  | .int i, v => v = .int i
  | .str s, v => v = .str s
section
variable {K : Frg} {W : WX} {σ : St} {H H' : Hp} {μ μ' : Mu} {Ω Ω' : Sto} {ρ : Env}
theorem Fz.le {a : Addr} {o : HO} (h : Fz H μ Ω a = some o) : H a = some o := (Fz.of h).1
theorem Fz.rd {a : Addr} {u : HO} (h : Rd (Fz H μ Ω) a u) : Rd H a u := by
  rcases h with h | ⟨o, h⟩
  · exact .inl (Fz.le h)
  · exact .inr ⟨o, Fz.le h⟩
theorem Fz.sqt {a : Addr} {vs : List V} (h : SqT K (Fz H μ Ω) a vs) : SqT K H a vs := by
  rcases h with h | h
  · exact .inl (Fz.rd h)
  · exact .inr h
theorem Fz.sql {a : Addr} {vs : List V} (h : SqL K (Fz H μ Ω) a vs) : SqL K H a vs := by
  rcases h with h | h
  · exact .inl (Fz.rd h)
  · exact .inr h
theorem view0 {d : D} {v : V} (h : Rep K (Fz H μ Ω) μ Ω.length d v) : View K H μ Ω d v := by
  cases d with
  | non => simpa [Rep, View] using h
  | bl b => simpa [Rep, View] using h
  | int b => simpa [Rep, View] using h
  | str b => simpa [Rep, View] using h
  | tup xs =>
    have h0 := h
    simp only [Rep] at h
    obtain ⟨p, vs, e, r, z, c⟩ := h
    refine ⟨p, vs, e, r, z, ?_, fun hf => ?_, h0⟩
    · rcases c with c | ⟨_, c⟩
      · exact .inl (.inl (Fz.le c))
      · exact Fz.sqt c
    · rcases c with c | ⟨c, _⟩
      · exact Fz.le c
      · rw [hf] at c; cases c
  | e0 =>
    simp only [Rep] at h
    obtain ⟨p, e, c⟩ := h
    exact ⟨p, e, Fz.sqt c⟩
  | lst xs =>
    simp only [Rep] at h
    obtain ⟨p, vs, e, r, z, c⟩ := h
    exact ⟨p, vs, e, r, z, Fz.le c⟩
  | scr xs =>
    simp only [Rep] at h
    obtain ⟨p, e, z, c⟩ := h
    exact ⟨p, e, z, Fz.sql c⟩
  | dk xs =>
    simp only [Rep] at h
    obtain ⟨p, vs, od, e, r, c⟩ := h
    exact ⟨p, vs, e, r, .inr ⟨od, Fz.le c⟩⟩
  | dt xs =>
    simp only [Rep] at h
    obtain ⟨p, vs, od, e, r, c⟩ := h
    exact ⟨p, vs, e, r, .inr ⟨od, Fz.le c⟩⟩
  | ins c xs =>
    simp only [Rep] at h
    obtain ⟨p, dx, vs, e, r, c⟩ := h
    exact ⟨p, dx, vs, e, r, Fz.le c⟩
  | hd k =>
    simp only [Rep] at h
    exact h.2
theorem view {d : D} {v : V} (w : Wf K H μ Ω) (h : Rep K (Fz H μ Ω) μ Ω.length d v) : View K H μ Ω (lk Ω d) v := by
  cases d with
  | hd k =>
    simp only [Rep] at h
    obtain ⟨_, rfl⟩ := h
    cases e : Ω[k]? with
    | none =>
      have q : lk Ω (.hd k) = .hd k := by simp [lk, e]
      rw [q]
      exact rfl
    | some o =>
      cases o with
      | dead =>
        have q : lk Ω (.hd k) = .hd k := by simp [lk, e]
        rw [q]
        exact rfl
      | lst xs =>
        have q : lk Ω (.hd k) = .lst xs := by simp [lk, e]
        rw [q]
        obtain ⟨ho, h1, vs, rfl, r, z⟩ := w.ob k _ e (by intro z; cases z)
        exact ⟨μ k, vs, rfl, r, z, h1⟩
      | dk xs =>
        have q : lk Ω (.hd k) = .dk xs := by simp [lk, e]
        rw [q]
        obtain ⟨ho, h1, vs, rfl, r⟩ := w.ob k _ e (by intro z; cases z)
        exact ⟨μ k, vs, rfl, r, .inl h1⟩
      | dt xs =>
        have q : lk Ω (.hd k) = .dt xs := by simp [lk, e]
        rw [q]
        obtain ⟨ho, h1, vs, rfl, r⟩ := w.ob k _ e (by intro z; cases z)
        exact ⟨μ k, vs, rfl, r, .inl h1⟩
      | ins c xs =>
        have q : lk Ω (.hd k) = .ins c xs := by simp [lk, e]
        rw [q]
        obtain ⟨ho, h1, dx, vs, rfl, r⟩ := w.ob k _ e (by intro z; cases z)
        exact ⟨μ k, dx, vs, rfl, r, h1⟩
  | _ => exact view0 h
/-- a sequence that is looked at -/
theorem view_seq {d : D} {v : V} {xs : List D} (h : View K H μ Ω d v) (e : seqD d = some xs) : ∃ p vs, v = .ref p ∧ Reps K (Fz H μ Ω) μ Ω.length xs vs ∧ vs.length ≤ sizeLine ∧ (SqL K H p vs ∨ SqT K H p vs) := by
  cases d with
  | lst ys =>
    cases e
    obtain ⟨p, vs, e, r, z, c⟩ := h
    exact ⟨p, vs, e, r, z, .inl (.inl (.inl c))⟩
  | tup ys =>
    cases e
    obtain ⟨p, vs, e, r, z, c, _⟩ := h
    exact ⟨p, vs, e, r, z, .inr c⟩
  | e0 =>
    cases e
    obtain ⟨p, e, c⟩ := h
    exact ⟨p, [], e, Reps.nil, Nat.zero_le _, .inr c⟩
  | scr ns =>
    cases e
    obtain ⟨p, e, z, c⟩ := h
    refine ⟨p, ns.map V.int, e, ?_, ?_, .inl c⟩
    · clear z c
      induction ns with
      | nil => exact Reps.nil
      | cons a l ih => exact Reps.cons (by simp [Rep]) ih
    · rw [List.length_map, sizeLine_eq]; omega
  | _ => cases e
def toVf : D → V
  | .non => .non
  | .bl b => .bl b
  | .int i => .int i
  | .str s => .str s
  | _ => .non
theorem Rep.toVf {x : D} {v : V} (h : Rep K H μ n x v) (f : flatD x = true) : v = toVf x := by
  cases x <;> first | (simp only [Rep] at h; exact h) | cases f
theorem toVf_flat {x : D} (f : flatD x = true) : flatV (Rf.toVf x) = true := by
  cases x <;> first | rfl | cases f
theorem eqV_toVf {x y : D} (f : flatD x = true) (g : flatD y = true) : eqV (Rf.toVf x) (Rf.toVf y) = eqFlat x y := by
  cases x <;> first | (cases y <;> first | rfl | (cases g; done)) | (cases f; done)
theorem Reps.toVf : ∀ {xs : List D} {vs : List V}, Reps K H μ n xs vs → xs.all flatD = true → vs = xs.map Rf.toVf
  | [], vs, h, _ => by
    simp only [Reps] at h
    rw [h]
    rfl
  | d :: ds, vs, h, f => by
    simp only [Reps] at h
    obtain ⟨v, ws, rfl, r, rs⟩ := h
    rw [List.all_cons, Bool.and_eq_true] at f
    rw [r.toVf f.1, Reps.toVf rs f.2]
    rfl
theorem flat_all : ∀ {xs : List D}, xs.all flatD = true → (xs.map Rf.toVf).all flatV = true
  | [], _ => rfl
  | d :: ds, f => by
    rw [List.all_cons, Bool.and_eq_true] at f
    rw [List.map_cons, List.all_cons, toVf_flat f.1, flat_all f.2]
    rfl
theorem inV_toVf {x : D} (fx : flatD x = true) : ∀ {xs : List D}, xs.all flatD = true → inV (Rf.toVf x) (xs.map Rf.toVf) = xs.any fun y => eqFlat y x
  | [], _ => rfl
  | d :: ds, f => by
    rw [List.all_cons, Bool.and_eq_true] at f
    have ih := inV_toVf fx f.2
    unfold inV at ih ⊢
    rw [List.map_cons, List.any_cons, List.any_cons, ih, eqV_toVf f.1 fx]
end
end Rf
end
section
namespace Rf
open PySem L2
section
variable {K : Frg} {W : WX} {σ : St} {H H' : Hp} {μ μ' : Mu} {Ω Ω' : Sto} {ρ : Env} {n : Nat}
theorem res_tup (w : Wf K H μ Ω) {xs : List D} {vs : List V} {p : Addr} (r : Reps K (Fz H μ Ω) μ Ω.length xs vs) (z : vs.length ≤ sizeLine) (hp : H p = none) :
    Ext K H μ Ω (upd H p (.tup vs)) μ Ω ∧ Rep K (Fz (upd H p (.tup vs)) μ Ω) μ Ω.length (.tup xs) (.ref p) := by
  have e := Ext.new (o := .tup vs) w hp
  refine ⟨e, ?_⟩
  simp only [Rep]
  exact ⟨p, vs, rfl, Reps.tr e.tr _ _ r, z, .inl (Fz.new w hp)⟩
theorem res_lst (w : Wf K H μ Ω) {xs : List D} {vs : List V} {p : Addr} (r : Reps K (Fz H μ Ω) μ Ω.length xs vs) (z : vs.length ≤ sizeLine) (hp : H p = none) :
    Ext K H μ Ω (upd H p (.lst vs)) μ Ω ∧ Rep K (Fz (upd H p (.lst vs)) μ Ω) μ Ω.length (.lst xs) (.ref p) := by
  have e := Ext.new (o := .lst vs) w hp
  refine ⟨e, ?_⟩
  simp only [Rep]
  exact ⟨p, vs, rfl, Reps.tr e.tr _ _ r, z, Fz.new w hp⟩
theorem res_dk (w : Wf K H μ Ω) {xs : List (Key × D)} {vs : List (Key × V)} {p : Addr} {od : Obj} (r : RepK K (Fz H μ Ω) μ Ω.length xs vs) (hp : H p = none) :
    Ext K H μ Ω (upd H p (.frz od (.dK vs))) μ Ω ∧ Rep K (Fz (upd H p (.frz od (.dK vs))) μ Ω) μ Ω.length (.dk xs) (.ref p) := by
  have e := Ext.new (o := .frz od (.dK vs)) w hp
  refine ⟨e, ?_⟩
  simp only [Rep]
  exact ⟨p, vs, od, rfl, RepK.tr e.tr _ _ r, Fz.new w hp⟩
theorem res_dt (w : Wf K H μ Ω) {xs : List (List Key × D)} {vs : List (List Key × V)} {p : Addr} {od : Obj} (r : RepT K (Fz H μ Ω) μ Ω.length xs vs) (hp : H p = none) :
    Ext K H μ Ω (upd H p (.frz od (.dT vs))) μ Ω ∧ Rep K (Fz (upd H p (.frz od (.dT vs))) μ Ω) μ Ω.length (.dt xs) (.ref p) := by
  have e := Ext.new (o := .frz od (.dT vs)) w hp
  refine ⟨e, ?_⟩
  simp only [Rep]
  exact ⟨p, vs, od, rfl, RepT.tr e.tr _ _ r, Fz.new w hp⟩
theorem Reps.rep (h : Reps K H μ n xs vs) : ∀ k : Nat, Reps K H μ n (List.replicate k xs).flatten (List.replicate k vs).flatten
  | 0 => Reps.nil
  | k + 1 => by
    rw [List.replicate_succ, List.replicate_succ, List.flatten_cons, List.flatten_cons]
    exact h.append (Reps.rep h k)
/-- what is wanted of a value: data d, the store as it was -/
def Want (K : Frg) (H : Hp) (μ : Mu) (Ω : Sto) (d : D) (Q : VK) : Prop := ∀ v H', Ext K H μ Ω H' μ Ω → Rep K (Fz H' μ Ω) μ Ω.length d v → Q v H'
theorem Want.now {d : D} {Q : VK} (k : Want K H μ Ω d Q) (w : Wf K H μ Ω) {v : V} (r : Rep K (Fz H μ Ω) μ Ω.length d v) : Q v H := k v H (Ext.refl w) r
theorem Want.int {i : Int} {Q : VK} (k : Want K H μ Ω (.int i) Q) (w : Wf K H μ Ω) : Q (.int i) H := k.now w (by simp only [Rep])
theorem Want.bl {b : Bool} {Q : VK} (k : Want K H μ Ω (.bl b) Q) (w : Wf K H μ Ω) : Q (.bl b) H := k.now w (by simp only [Rep])
theorem Want.str {s : Str} {Q : VK} (k : Want K H μ Ω (.str s) Q) (w : Wf K H μ Ω) : Q (.str s) H := k.now w (by simp only [Rep])
theorem Want.lst {xs : List D} {vs : List V} {Q : VK} (k : Want K H μ Ω (.lst xs) Q) (w : Wf K H μ Ω) (r : Reps K (Fz H μ Ω) μ Ω.length xs vs) (z : vs.length ≤ sizeLine) : ∀ p, H p = none → Q (.ref p) (upd H p (.lst vs)) := fun p hp =>
  let ⟨e, q⟩ := res_lst w r z hp
  k _ _ e q
theorem Want.tup {xs : List D} {vs : List V} {Q : VK} (k : Want K H μ Ω (.tup xs) Q) (w : Wf K H μ Ω) (r : Reps K (Fz H μ Ω) μ Ω.length xs vs) (z : vs.length ≤ sizeLine) : ∀ p, H p = none → Q (.ref p) (upd H p (.tup vs)) := fun p hp =>
  let ⟨e, q⟩ := res_tup w r z hp
  k _ _ e q
end

section
variable {X : Cx}
/-- a two-place operation by data -/
def r2 (K : Frg) (f : D → D → Option D) : R2 := fun x y H Q => ∃ μ Ω a b d, Wf K H μ Ω ∧ View K H μ Ω a x ∧ View K H μ Ω b y ∧ f a b = some d ∧ Want K H μ Ω d Q
theorem opt_if {c : Prop} [Decidable c] {α : Type} {x y : α} (h : (if c then some x else none) = some y) : c ∧ x = y := by
  by_cases hc : c
  · rw [if_pos hc] at h
    exact ⟨hc, Option.some.inj h⟩
  · rw [if_neg hc] at h
    cases h
theorem add_ok : OpR X (binaryOp .Add) (r2 X.K (op2D .Add)) := by
  intro pins s σ H x y v u Q I rx ry h
  obtain ⟨μ, Ω, a, b, d, w, va, vb, e, k⟩ := h
  have e : opAdd a b = some d := e
  cases a with
  | int i =>
    cases b with
    | int j =>
      cases e
      simp only [View] at va vb
      exact op_add pins s σ H x y v u Q I rx ry ⟨i, j, va, vb, k.int w⟩
    | _ => cases e
  | str i =>
    cases b with
    | str j =>
      obtain ⟨hz, rfl⟩ := opt_if e
      simp only [View] at va vb
      exact op_add_str pins s σ H x y v u Q I rx ry ⟨i, j, va, vb, big_eq ▸ hz, k.str w⟩
    | _ => cases e
  | lst xs =>
    cases b with
    | lst ys =>
      obtain ⟨hz, rfl⟩ := opt_if e
      obtain ⟨p, vs, e1, r1, z1, c1⟩ := va
      obtain ⟨q, ws, e2, r2, z2, c2⟩ := vb
      have hl : vs.length + ws.length ≤ sizeLine := by rw [r1.length, r2.length, ← big_eq]; exact hz
      exact op_cat pins s σ H x y v u Q I rx ry ⟨p, q, vs, ws, e1, e2, c1, c2, hl, k.lst w (r1.append r2) (by rw [List.length_append]; exact hl)⟩
    | _ => cases e
  | tup xs =>
    cases b with
    | tup ys =>
      obtain ⟨hz, rfl⟩ := opt_if e
      obtain ⟨p, vs, e1, r1, z1, c1, _, rp1⟩ := va
      obtain ⟨q, ws, e2, r2, z2, c2, _, rp2⟩ := vb
      have hl : vs.length + ws.length ≤ sizeLine := by rw [r1.length, r2.length, ← big_eq]; exact hz
      refine op_catA pins s σ H x y v u Q I rx ry ⟨p, q, vs, ws, e1, e2, c1, c2, hl, fun h0 => ?_, fun h0 h1 => ?_, fun h0 h1 => k.tup w (r1.append r2) (by rw [List.length_append]; exact hl)⟩
      · have hx : xs = [] := by
          have := r1.length
          rw [h0] at this
          exact List.length_eq_zero_iff.mp this.symm
        subst hx
        rw [← e2]
        exact k.now w rp2
      · have hy : ys = [] := by
          have := r2.length
          rw [h1] at this
          exact List.length_eq_zero_iff.mp this.symm
        subst hy
        rw [List.append_nil] at k
        rw [← e1]
        exact k.now w rp1
    | _ => cases e
  | _ => cases b <;> cases e
theorem mul_ok : OpR X (binaryOp .Mult) (r2 X.K (op2D .Mult)) := by
  intro pins s σ H x y v u Q I rx ry h
  obtain ⟨μ, Ω, a, b, d, w, va, vb, e, k⟩ := h
  have e : opMul a b = some d := e
  cases a with
  | int i =>
    cases b with
    | int j =>
      obtain ⟨hz, rfl⟩ := opt_if e
      simp only [View] at va vb
      exact op_mulW pins s σ H x y v u Q I rx ry ⟨i, j, va, vb, hz, k.int w⟩
    | _ => cases e
  | lst xs =>
    cases b with
    | int j =>
      obtain ⟨⟨h1, h2, hz⟩, rfl⟩ := opt_if e
      simp only [View] at vb
      obtain ⟨p, vs, e1, r1, z1, c1⟩ := va
      have hl : vs.length * j.toNat ≤ sizeLine := by rw [r1.length, ← big_eq]; exact hz
      refine op_rep pins s σ H x y v u Q I rx ry ⟨p, j, vs, e1, vb, c1, h1, h2, hl, k.lst w (r1.rep _) ?_⟩
      rw [List.length_flatten, List.map_replicate, List.sum_replicate_nat, Nat.mul_comm]
      exact hl
    | _ => cases e
  | _ => cases b <;> cases e
theorem op2_ok (o : Operator) : OpR X (binaryOp o) (r2 X.K (op2D o)) := by
  cases o with
  | Add => exact add_ok
  | Mult => exact mul_ok
  | Sub =>
    intro pins s σ H x y v u Q I rx ry h
    obtain ⟨μ, Ω, a, b, d, w, va, vb, e, k⟩ := h
    cases a with
    | int i =>
      cases b with
      | int j =>
        cases e
        simp only [View] at va vb
        exact op_sub pins s σ H x y v u Q I rx ry ⟨i, j, va, vb, k.int w⟩
      | _ => cases e
    | _ => cases b <;> cases e
  | FloorDiv =>
    intro pins s σ H x y v u Q I rx ry h
    obtain ⟨μ, Ω, a, b, d, w, va, vb, e, k⟩ := h
    cases a with
    | int i =>
      cases b with
      | int j =>
        obtain ⟨hz, rfl⟩ := opt_if (show (if 0 < j ∧ j.natAbs.log2 < 9000 then some (D.int (i / j)) else none) = some d from e)
        simp only [View] at va vb
        exact op_fdivW pins s σ H x y v u Q I rx ry ⟨i, j, va, vb, hz, k.int w⟩
      | _ => cases e
    | _ => cases b <;> cases e
  | Mod =>
    intro pins s σ H x y v u Q I rx ry h
    obtain ⟨μ, Ω, a, b, d, w, va, vb, e, k⟩ := h
    cases a with
    | int i =>
      cases b with
      | int j =>
        obtain ⟨hz, rfl⟩ := opt_if (show (if 0 < j then some (D.int (i % j)) else none) = some d from e)
        simp only [View] at va vb
        exact op_mod pins s σ H x y v u Q I rx ry ⟨i, j, va, vb, hz, k.int w⟩
      | _ => cases e
    | _ => cases b <;> cases e
  | Pow =>
    intro pins s σ H x y v u Q I rx ry h
    obtain ⟨μ, Ω, a, b, d, w, va, vb, e, k⟩ := h
    cases a with
    | int i =>
      cases b with
      | int j =>
        obtain ⟨hz, rfl⟩ := opt_if (show (if 0 ≤ j ∧ j ≤ 1000000 ∧ i.natAbs < 2 ^ 64 then some (D.int (i ^ j.toNat)) else none) = some d from e)
        simp only [View] at va vb
        exact op_pow pins s σ H x y v u Q I rx ry ⟨i, j, va, vb, hz, k.int w⟩
      | _ => cases e
    | _ => cases b <;> cases e
  | _ =>
    intro pins s σ H x y v u Q I rx ry h
    obtain ⟨μ, Ω, a, b, d, w, va, vb, e, k⟩ := h
    cases e
end
end Rf
end
section
namespace Rf
open PySem L2
section
variable {K : Frg} {W : WX} {σ : St} {H H' G : Hp} {μ μ' : Mu} {Ω Ω' : Sto} {ρ : Env} {n : Nat}
/-! ### keys -/
theorem key_rep {d : D} {v : V} {k : Key} (h : Rep K G μ n d v) (e : keyD d = some k) : v = kV k := by
  cases d with
  | int i => cases e; simp only [Rep] at h; exact h
  | str i => cases e; simp only [Rep] at h; exact h
  | _ => cases e
theorem key_view {d : D} {v : V} {k : Key} (h : View K H μ Ω d v) (e : keyD d = some k) : v = kV k := by
  cases d with
  | int i => cases e; simp only [View] at h; exact h
  | str i => cases e; simp only [View] at h; exact h
  | _ => cases e
theorem keys_rep : ∀ {xs : List D} {vs : List V} {ks : List Key}, Reps K G μ n xs vs → keysD xs = some ks → vs = ks.map kV
  | [], vs, ks, h, e => by
    cases e
    simp only [Reps] at h
    rw [h]
    rfl
  | d :: ds, vs, ks, h, e => by
    simp only [Reps] at h
    obtain ⟨v, ws, rfl, r, rs⟩ := h
    unfold keysD at e
    cases e1 : keyD d with
    | none => rw [e1] at e; cases e
    | some k =>
      cases e2 : keysD ds with
      | none => rw [e1, e2] at e; cases e
      | some kr =>
        rw [e1, e2] at e
        cases e
        rw [key_rep r e1, keys_rep rs e2]
        rfl
theorem tkey_view {d : D} {v : V} {k : List Key} (h : View K H μ Ω d v) (e : tkeyD d = some k) : ∃ b, v = .ref b ∧ H b = some (.tup (k.map kV)) := by
  cases d with
  | tup xs =>
    have e : (if fracB xs = true then none else keysD xs) = some k := e
    cases hf : fracB xs with
    | true => rw [hf, if_pos rfl] at e; cases e
    | false =>
      rw [hf, if_neg Bool.false_ne_true] at e
      obtain ⟨p, vs, e1, r, z, _, c, _⟩ := h
      rw [keys_rep r e] at c
      exact ⟨p, e1, c hf⟩
  | _ => cases e
/-! ### what a dict holds -/
theorem getK_rep : ∀ {kvs : List (Key × D)} {ws : List (Key × V)} {k : Key}, RepK K G μ n kvs ws → (∀ d, getK kvs k = some d → ∃ v, valV ws k = some v ∧ Rep K G μ n d v) ∧ (getK kvs k = none → valV ws k = none)
  | [], ws, k, h => by
    simp only [RepK] at h
    subst h
    exact ⟨fun d e => (by cases e), fun _ => rfl⟩
  | (j, d) :: r, ws, k, h => by
    simp only [RepK] at h
    obtain ⟨v, w', rfl, rv, rr⟩ := h
    obtain ⟨i1, i2⟩ := getK_rep (k := k) rr
    unfold getK at i1 i2 ⊢
    by_cases e : j = k
    · subst e
      rw [valV_pos rfl]
      simp only [List.find?_cons, decide_true, Option.map_some]
      exact ⟨fun d' q => ⟨v, rfl, by cases q; exact rv⟩, fun q => (by cases q)⟩
    · rw [valV_neg (p := (j, v)) e]
      simp only [List.find?_cons, decide_eq_false e]
      exact ⟨i1, i2⟩
theorem getT_rep : ∀ {kvs : List (List Key × D)} {ws : List (List Key × V)} {k : List Key}, RepT K G μ n kvs ws → (∀ d, getK kvs k = some d → ∃ v, valV ws k = some v ∧ Rep K G μ n d v) ∧ (getK kvs k = none → valV ws k = none)
  | [], ws, k, h => by
    simp only [RepT] at h
    subst h
    exact ⟨fun d e => (by cases e), fun _ => rfl⟩
  | (j, d) :: r, ws, k, h => by
    simp only [RepT] at h
    obtain ⟨v, w', rfl, rv, rr⟩ := h
    obtain ⟨i1, i2⟩ := getT_rep (k := k) rr
    unfold getK at i1 i2 ⊢
    by_cases e : j = k
    · subst e
      rw [valV_pos rfl]
      simp only [List.find?_cons, decide_true, Option.map_some]
      exact ⟨fun d' q => ⟨v, rfl, by cases q; exact rv⟩, fun q => (by cases q)⟩
    · rw [valV_neg (p := (j, v)) e]
      simp only [List.find?_cons, decide_eq_false e]
      exact ⟨i1, i2⟩
theorem isSome_rep {kvs : List (Key × D)} {ws : List (Key × V)} {k : Key} (h : RepK K G μ n kvs ws) : (valV ws k).isSome = (getK kvs k).isSome := by
  obtain ⟨h1, h2⟩ := getK_rep (k := k) h
  cases e : getK kvs k with
  | none => rw [h2 e]; rfl
  | some d =>
    obtain ⟨v, e1, _⟩ := h1 d e
    rw [e1]
    rfl
theorem isSomeT_rep {kvs : List (List Key × D)} {ws : List (List Key × V)} {k : List Key} (h : RepT K G μ n kvs ws) : (valV ws k).isSome = (getK kvs k).isSome := by
  obtain ⟨h1, h2⟩ := getT_rep (k := k) h
  cases e : getK kvs k with
  | none => rw [h2 e]; rfl
  | some d =>
    obtain ⟨v, e1, _⟩ := h1 d e
    rw [e1]
    rfl
/-! ### data as the library's own, for == -/
mutual
theorem dp_rep : ∀ (d : D) (v : V) (x : PyData), Rep K (Fz H μ Ω) μ n d v → toPy d = some x → Dp K H v x
  | .non, v, x, h, e => by simp only [Rep] at h; simp only [toPy] at e; cases e; subst h; exact .non
  | .bl b, v, x, h, e => by simp only [Rep] at h; simp only [toPy] at e; cases e; subst h; exact .bl b
  | .int i, v, x, h, e => by simp only [Rep] at h; simp only [toPy] at e; cases e; subst h; exact .int i
  | .str i, v, x, h, e => by simp only [Rep] at h; simp only [toPy] at e; cases e; subst h; exact .str i
  | .tup xs, v, x, h, e => by
    simp only [Rep] at h
    simp only [toPy] at e
    obtain ⟨p, vs, rfl, r, z, c⟩ := h
    obtain ⟨ds, e1, rfl⟩ := Option.map_eq_some_iff.mp e
    refine .tup ?_ (dps_rep xs vs ds r e1)
    rcases c with c | ⟨_, c⟩
    · exact .inl (.inl (Fz.le c))
    · exact Fz.sqt c
  | .e0, v, x, h, e => by
    simp only [Rep] at h
    simp only [toPy] at e
    cases e
    obtain ⟨p, rfl, c⟩ := h
    exact .tup (Fz.sqt c) .nil
  | .lst xs, v, x, h, e => by
    simp only [Rep] at h
    simp only [toPy] at e
    obtain ⟨p, vs, rfl, r, z, c⟩ := h
    obtain ⟨ds, e1, rfl⟩ := Option.map_eq_some_iff.mp e
    exact .lst (.inl (.inl (Fz.le c))) (dps_rep xs vs ds r e1)
  | .scr _, v, x, h, e => by simp only [toPy] at e; cases e
  | .dk _, v, x, h, e => by simp only [toPy] at e; cases e
  | .dt _, v, x, h, e => by simp only [toPy] at e; cases e
  | .ins _ _, v, x, h, e => by simp only [toPy] at e; cases e
  | .hd _, v, x, h, e => by simp only [toPy] at e; cases e
theorem dps_rep : ∀ (ds : List D) (vs : List V) (xs : List PyData), Reps K (Fz H μ Ω) μ n ds vs → toPys ds = some xs → DpAll K H vs xs
  | [], vs, xs, h, e => by simp only [Reps] at h; simp only [toPys] at e; cases e; subst h; exact .nil
  | d :: ds, vs, xs, h, e => by
    simp only [Reps] at h
    obtain ⟨v, ws, rfl, r, rs⟩ := h
    simp only [toPys] at e
    cases e1 : toPy d with
    | none => rw [e1] at e; cases e
    | some x =>
      cases e2 : toPys ds with
      | none => rw [e1, e2] at e; cases e
      | some ys =>
        rw [e1, e2] at e
        cases e
        exact .cons (dp_rep d v x r e1) (dps_rep ds ws ys rs e2)
end
theorem dp_view {d : D} {v : V} {x : PyData} (h : View K H μ Ω d v) (e : toPy d = some x) : Dp K H v x := by
  cases d with
  | lst xs =>
    simp only [toPy] at e
    obtain ⟨p, vs, rfl, r, z, c⟩ := h
    obtain ⟨ds, e1, rfl⟩ := Option.map_eq_some_iff.mp e
    exact .lst (.inl (.inl c)) (dps_rep xs vs ds r e1)
  | tup xs =>
    obtain ⟨p, vs, _, _, _, _, _, r⟩ := h
    exact dp_rep _ _ _ r e
  | e0 =>
    simp only [toPy] at e
    cases e
    obtain ⟨p, rfl, c⟩ := h
    exact .tup c .nil
  | non => simp only [View] at h; simp only [toPy] at e; cases e; subst h; exact .non
  | bl b => simp only [View] at h; simp only [toPy] at e; cases e; subst h; exact .bl b
  | int i => simp only [View] at h; simp only [toPy] at e; cases e; subst h; exact .int i
  | str i => simp only [View] at h; simp only [toPy] at e; cases e; subst h; exact .str i
  | _ => simp only [toPy] at e; cases e
theorem flat_view {x : D} {v : V} (h : View K H μ Ω x v) (f : flatD x = true) : v = toVf x := by
  cases x <;> first | (simp only [View] at h; exact h) | cases f
end
/-! ### comparisons -/
def rc (K : Frg) (f : D → D → Option Bool) : R2 := fun x y H Q => ∃ μ Ω a b t, Wf K H μ Ω ∧ View K H μ Ω a x ∧ View K H μ Ω b y ∧ f a b = some t ∧ Q (.bl t) H
section
variable {X : Cx}
theorem eqD_some {a b : D} {t : Bool} (e : eqD a b = some t) : ∃ x y, toPy a = some x ∧ toPy b = some y ∧ SeqAt.shaped x = true ∧ SeqAt.shaped y = true ∧ t = PyData.eqv x y := by
  unfold eqD at e
  cases e1 : toPy a with
  | none => rw [e1] at e; cases e
  | some x =>
    cases e2 : toPy b with
    | none => rw [e1, e2] at e; cases e
    | some y =>
      rw [e1, e2] at e
      obtain ⟨⟨h1, h2⟩, h3⟩ := opt_if e
      exact ⟨x, y, rfl, rfl, h1, h2, h3.symm⟩
theorem eq_ok (hu : X.A.units + 64 < cLine) : OpR X (compareOp .Eq) (rc X.K eqD) := by
  intro pins s σ H x y v u Q I rx ry h
  obtain ⟨μ, Ω, a, b, t, w, va, vb, e, q⟩ := h
  obtain ⟨x', y', e1, e2, h1, h2, rfl⟩ := eqD_some e
  exact op_eqD hu pins s σ H x y v u Q I rx ry ⟨x', y', dp_view va e1, dp_view vb e2, h1, h2, q⟩
theorem ne_ok (hu : X.A.units + 64 < cLine) : OpR X (compareOp .NotEq) (rc X.K fun a b => (eqD a b).map (!·)) := by
  intro pins s σ H x y v u Q I rx ry h
  obtain ⟨μ, Ω, a, b, t, w, va, vb, e, q⟩ := h
  obtain ⟨t', e0, rfl⟩ := Option.map_eq_some_iff.mp e
  obtain ⟨x', y', e1, e2, h1, h2, rfl⟩ := eqD_some e0
  exact op_neD hu pins s σ H x y v u Q I rx ry ⟨x', y', dp_view va e1, dp_view vb e2, h1, h2, q⟩
theorem in_seqD {K : Frg} {H : Hp} {μ : Mu} {Ω : Sto} {a b : D} {x y : V} {xs : List D} {neg : Bool} {Q : VK} (va : View K H μ Ω a x) (vb : View K H μ Ω b y) (es : seqD b = some xs) (hf : (flatD a && xs.all flatD) = true)
    (q : Q (.bl (if neg then !(xs.any fun y => eqFlat y a) else xs.any fun y => eqFlat y a)) H) : rIn K neg x y H Q := by
  rw [Bool.and_eq_true] at hf
  obtain ⟨p, vs, e1, r, z, c⟩ := view_seq vb es
  have ex := flat_view va hf.1
  have ev := r.toVf hf.2
  subst ex ev
  exact ⟨p, _, e1, c, toVf_flat hf.1, flat_all hf.2, by rw [inV_toVf hf.1 hf.2]; exact q⟩
theorem inD_cases {a b : D} {t : Bool} (e : inD a b = some t) :
    (∃ s z, a = .str s ∧ b = .str z ∧ t = !(Builtin.Str.occurrences z s 0 z.length 1).isEmpty) ∨ (∃ kvs k, b = .dk kvs ∧ keyD a = some k ∧ t = (getK kvs k).isSome) ∨ (∃ kvs k, b = .dt kvs ∧ tkeyD a = some k ∧ t = (getK kvs k).isSome) ∨
    (∃ xs, seqD b = some xs ∧ (flatD a && xs.all flatD) = true ∧ t = xs.any fun y => eqFlat y a) := by
  unfold inD at e
  cases b with
  | str z =>
    cases a with
    | str s => exact .inl ⟨s, z, rfl, rfl, (Option.some.inj e).symm⟩
    | _ => cases e
  | dk kvs =>
    cases e1 : keyD a with
    | none => simp only [e1] at e; cases e
    | some k => simp only [e1] at e; exact .inr (.inl ⟨kvs, k, rfl, rfl, (Option.some.inj e).symm⟩)
  | dt kvs =>
    cases e1 : tkeyD a with
    | none => simp only [e1] at e; cases e
    | some k => simp only [e1] at e; exact .inr (.inr (.inl ⟨kvs, k, rfl, rfl, (Option.some.inj e).symm⟩))
  | lst xs => obtain ⟨h1, h2⟩ := opt_if (show (if (flatD a && xs.all flatD) = true then some (xs.any fun y => eqFlat y a) else none) = some t from e); exact .inr (.inr (.inr ⟨xs, rfl, h1, h2.symm⟩))
  | tup xs => obtain ⟨h1, h2⟩ := opt_if (show (if (flatD a && xs.all flatD) = true then some (xs.any fun y => eqFlat y a) else none) = some t from e); exact .inr (.inr (.inr ⟨xs, rfl, h1, h2.symm⟩))
  | e0 => obtain ⟨h1, h2⟩ := opt_if (show (if (flatD a && ([] : List D).all flatD) = true then some (([] : List D).any fun y => eqFlat y a) else none) = some t from e); exact .inr (.inr (.inr ⟨[], rfl, h1, h2.symm⟩))
  | scr ns => obtain ⟨h1, h2⟩ := opt_if (show (if (flatD a && (ns.map D.int).all flatD) = true then some ((ns.map D.int).any fun y => eqFlat y a) else none) = some t from e); exact .inr (.inr (.inr ⟨_, rfl, h1, h2.symm⟩))
  | _ => cases e
theorem dget_k {K : Frg} {H : Hp} {μ : Mu} {Ω : Sto} {a : D} {x y : V} {kvs : List (Key × D)} {k : Key} (va : View K H μ Ω a x) (vb : View K H μ Ω (.dk kvs) y) (ek : keyD a = some k) :
    ∃ p ws, y = .ref p ∧ RepK K (Fz H μ Ω) μ Ω.length kvs ws ∧ DGet H p x (valV ws k) := by
  obtain ⟨p, ws, e1, r, c⟩ := vb
  exact ⟨p, ws, e1, r, .inl ⟨ws, k, c, key_view va ek, rfl⟩⟩
theorem dget_t {K : Frg} {H : Hp} {μ : Mu} {Ω : Sto} {a : D} {x y : V} {kvs : List (List Key × D)} {k : List Key} (va : View K H μ Ω a x) (vb : View K H μ Ω (.dt kvs) y) (ek : tkeyD a = some k) :
    ∃ p ws, y = .ref p ∧ RepT K (Fz H μ Ω) μ Ω.length kvs ws ∧ DGet H p x (valV ws k) := by
  obtain ⟨p, ws, e1, r, c⟩ := vb
  obtain ⟨b, e2, hb⟩ := tkey_view va ek
  exact ⟨p, ws, e1, r, .inr ⟨ws, k, b, c, e2, hb, rfl⟩⟩
theorem in_ok (hu : X.A.units + 1 < cLine) : OpR X (compareOp .In) (rc X.K inD) := by
  intro pins s σ H x y v u Q I rx ry h
  obtain ⟨μ, Ω, a, b, t, w, va, vb, e, q⟩ := h
  rcases inD_cases e with ⟨s', z, rfl, rfl, rfl⟩ | ⟨kvs, k, rfl, ek, rfl⟩ | ⟨kvs, k, rfl, ek, rfl⟩ | ⟨xs, es, hf, rfl⟩
  · simp only [View] at va vb
    exact op_in_str pins s σ H x y v u Q I rx ry ⟨s', z, va, vb, q⟩
  · obtain ⟨p, ws, rfl, r, g⟩ := dget_k va vb ek
    cases ry
    exact d_in hu I g rx fun s' I' => ⟨.bl _, H, I', rfl, by rw [isSome_rep r]; exact q⟩
  · obtain ⟨p, ws, rfl, r, g⟩ := dget_t va vb ek
    cases ry
    exact d_in hu I g rx fun s' I' => ⟨.bl _, H, I', rfl, by rw [isSomeT_rep r]; exact q⟩
  · exact op_in_seq pins s σ H x y v u Q I rx ry (in_seqD va vb es hf (neg := false) q)
theorem notin_ok (hu : X.A.units + 1 < cLine) : OpR X (compareOp .NotIn) (rc X.K fun a b => (inD a b).map (!·)) := by
  intro pins s σ H x y v u Q I rx ry h
  obtain ⟨μ, Ω, a, b, t, w, va, vb, e0, q⟩ := h
  obtain ⟨t', e, rfl⟩ := Option.map_eq_some_iff.mp e0
  rcases inD_cases e with ⟨s', z, rfl, rfl, rfl⟩ | ⟨kvs, k, rfl, ek, rfl⟩ | ⟨kvs, k, rfl, ek, rfl⟩ | ⟨xs, es, hf, rfl⟩
  · simp only [View] at va vb
    exact op_notin_str pins s σ H x y v u Q I rx ry ⟨s', z, va, vb, q⟩
  · obtain ⟨p, ws, rfl, r, g⟩ := dget_k va vb ek
    cases ry
    exact d_notIn hu I g rx fun s' I' => ⟨.bl _, H, I', rfl, by rw [isSome_rep r]; exact q⟩
  · obtain ⟨p, ws, rfl, r, g⟩ := dget_t va vb ek
    cases ry
    exact d_notIn hu I g rx fun s' I' => ⟨.bl _, H, I', rfl, by rw [isSomeT_rep r]; exact q⟩
  · exact op_notIn_seq pins s σ H x y v u Q I rx ry (in_seqD va vb es hf (neg := true) q)
theorem cmp_ok (hu : X.A.units + 64 < cLine) (o : CmpOp) : OpR X (compareOp o) (rc X.K (cmpD o)) := by
  cases o with
  | Eq => exact eq_ok hu
  | NotEq => exact ne_ok hu
  | In => exact in_ok (by omega)
  | NotIn => exact notin_ok (by omega)
  | Lt =>
    intro pins s σ H x y v u Q I rx ry h
    obtain ⟨μ, Ω, a, b, t, w, va, vb, e, q⟩ := h
    cases a with
    | int i =>
      cases b with
      | int j => cases e; simp only [View] at va vb; exact op_lt pins s σ H x y v u Q I rx ry ⟨i, j, va, vb, q⟩
      | _ => cases e
    | str i =>
      cases b with
      | str j => cases e; simp only [View] at va vb; exact op_lt_str pins s σ H x y v u Q I rx ry ⟨i, j, va, vb, q⟩
      | _ => cases e
    | _ => cases b <;> cases e
  | LtE =>
    intro pins s σ H x y v u Q I rx ry h
    obtain ⟨μ, Ω, a, b, t, w, va, vb, e, q⟩ := h
    cases a with
    | int i =>
      cases b with
      | int j => cases e; simp only [View] at va vb; exact op_le pins s σ H x y v u Q I rx ry ⟨i, j, va, vb, q⟩
      | _ => cases e
    | _ => cases b <;> cases e
  | Gt =>
    intro pins s σ H x y v u Q I rx ry h
    obtain ⟨μ, Ω, a, b, t, w, va, vb, e, q⟩ := h
    cases a with
    | int i =>
      cases b with
      | int j => cases e; simp only [View] at va vb; exact op_gt pins s σ H x y v u Q I rx ry ⟨i, j, va, vb, q⟩
      | _ => cases e
    | _ => cases b <;> cases e
  | GtE =>
    intro pins s σ H x y v u Q I rx ry h
    obtain ⟨μ, Ω, a, b, t, w, va, vb, e, q⟩ := h
    cases a with
    | int i =>
      cases b with
      | int j => cases e; simp only [View] at va vb; exact op_ge pins s σ H x y v u Q I rx ry ⟨i, j, va, vb, q⟩
      | _ => cases e
    | _ => cases b <;> cases e
  | _ =>
    intro pins s σ H x y v u Q I rx ry h
    obtain ⟨μ, Ω, a, b, t, w, va, vb, e, q⟩ := h
    cases a <;> cases b <;> cases e
end
end Rf
end
section
namespace Rf
open PySem PySem.Spec PyProof.Rows L2
/-! ### dict(list of pairs) whose keys are tuples -/
def mergeT (kvs more : List (List Key × V)) : List (List Key × V) := more.foldl (fun acc kv => putK acc kv.1 kv.2) kvs
theorem mergeT_len : ∀ (more kvs : List (List Key × V)), (mergeT kvs more).length ≤ kvs.length + more.length
  | [], kvs => Nat.le_refl _
  | kv :: more, kvs => by
    have h1 := mergeT_len more (putK kvs kv.1 kv.2)
    have h2 := length_putK kvs kv.1 kv.2
    show (mergeT (putK kvs kv.1 kv.2) more).length ≤ _
    rw [List.length_cons]
    omega
theorem mergeT_kt {H : Hp} : ∀ {more : List (List Key × V)} {ms : List (List Key × Addr × Value)} {kvs : List (List Key × V)} {xs : List (List Key × Addr × Value)}, KT H more ms → KT H kvs xs → KT H (mergeT kvs more) (storedAllH xs ms)
  | _, _, kvs, xs, .nil, r => r
  | _, _, kvs, xs, .cons (a := p) (b := q) h t, r => by
    have e := h.1
    refine mergeT_kt (kvs := putK kvs p.1 p.2) (xs := storedH xs q.1 q.2.1 q.2.2) t ?_
    rw [← e]
    exact r.put p.1 h.2.1 h.2.2
section
variable {X : Cx} {pins : List (Addr × Obj)} {σ : L2.St} {H : Hp} {s : Shared}
theorem pairs_atT (I : L2.Inv X pins σ H s) : ∀ {ps : List Addr} {kvs : List (List Key × V)}, Paired (fun p kv => ∃ b : Addr, SqT X.K H p [.ref b, kv.2] ∧ H b = some (.tup (kv.1.map kV))) ps kvs →
    ∃ prs : List (List Key × Addr × Value), KT H kvs prs ∧ prs.length = ps.length ∧ ∀ (j : Nat) (q : List Key × Addr × Value), prs[j]? = some q → ∃ p : Addr, ps[j]? = some p ∧ IsTup s.heap p #[.ref q.2.1, q.2.2]
  | _, _, .nil => ⟨[], .nil, rfl, fun j q e => by simp at e⟩
  | _, _, .cons (a := p) (b := kv) h t => by
    obtain ⟨b, h1, h2⟩ := h
    obtain ⟨prs, r, hl, hp⟩ := pairs_atT I t
    obtain ⟨its, rv, ht, _⟩ := I.tuple h1
    obtain ⟨u, y, ei, ru, ry⟩ := vals2 rv
    subst ei
    cases ru
    refine ⟨(kv.1, b, y) :: prs, .cons ⟨rfl, h2, ry⟩ r, by rw [List.length_cons, List.length_cons, hl], fun j q e => ?_⟩
    cases j with
    | zero =>
      have e' : (kv.1, b, y) = q := Option.some.inj e
      subst e'
      exact ⟨p, rfl, ht⟩
    | succ j => exact hp j q (by simpa using e)
theorem kt_key {P : Program} {w : World} {h : Heap} (ok : HOk P w H h) : ∀ {kvs : List (List Key × V)} {xs : List (List Key × Addr × Value)}, KT H kvs xs → ∀ x ∈ xs, (tupleKind (mixKind P w)).is h x.1 x.2.1 := by
  intro kvs xs q
  induction q with
  | nil => intro x hx; exact nomatch hx
  | @cons a b as bs hq t ih =>
    intro x hx
    rcases List.mem_cons.mp hx with e | hx
    · subst e
      exact key_of ok (by rw [← hq.1]; exact hq.2.1)
    · exact ih x hx
theorem call_dictPT (hc : X.calm = true) (hu : X.A.units + 64 < cLine) : CallR X (.type "dict") (fun xs H Q => ∃ (a : Addr) (ps : List Addr) (kvs : List (List Key × V)), xs = [.ref a] ∧ SqL X.K H a (ps.map V.ref) ∧ Paired (fun p kv => ∃ b : Addr, SqT X.K H p [.ref b, kv.2] ∧ H b = some (.tup (kv.1.map kV))) ps kvs ∧
    ∀ p, H p = none → Q (.ref p) (upd H p (.dT (mergeT [] kvs)))) := by
  intro pins s σ H xs us Q I r q
  obtain ⟨a, ps, kvs, ex, hq, hp, q⟩ := q
  subst ex
  obtain ⟨u, eu, rx⟩ := vals1 r
  subst eu
  cases rx
  obtain ⟨its, rv, pl, hz⟩ := I.list hq
  have ei := refs_at rv
  subst ei
  rw [List.length_map] at hz
  obtain ⟨prs, rel, hl, hpr⟩ := pairs_atT (s := s) I hp
  obtain ⟨o, n, ho, hcl, hd, hdat⟩ := pl
  have hkl : kvs.length = prs.length := Paired.length rel
  have items : PairItems s.heap (ps.map Value.ref).toArray (fun j => ps.getD j 0) (prs.map fun q => (Value.ref q.2.1, q.2.2)) := by
    refine ⟨by simp [hl], fun j k v e => ?_⟩
    rw [List.getElem?_map] at e
    cases e1 : prs[j]? with
    | none => rw [e1] at e; cases e
    | some q =>
      rw [e1] at e
      obtain ⟨p, e2, e3⟩ := hpr j q e1
      have e : (Value.ref q.2.1, q.2.2) = (k, v) := Option.some.inj e
      cases e
      refine ⟨by simp [e2, List.getD_eq_getElem?_getD], .inl ?_⟩
      show s.heap.IsTuple (ps.getD j 0) _
      rw [List.getD_eq_getElem?_getD, e2]
      exact e3
  have PA := PairArg.list (prog := X.prog) (w := X.w) a (ps.map Value.ref).toArray (fun j => ps.getD j 0) (prs.map fun q => (Value.ref q.2.1, q.2.2))
  have hav : PairsHaveH (tupleKind (mixKind X.prog X.w)) (prs.map fun q => (Value.ref q.2.1, q.2.2)).length (PairRel (prs.map fun q => (Value.ref q.2.1, q.2.2))) prs := by
    refine ⟨by rw [List.length_map], fun i key v e => ?_⟩
    have e : (prs.map fun q => (Value.ref q.2.1, q.2.2))[i]? = some (key, v) := e
    rw [List.getElem?_map] at e
    cases e1 : prs[i]? with
    | none => rw [e1] at e; cases e
    | some q =>
      rw [e1] at e
      have e : (Value.ref q.2.1, q.2.2) = (key, v) := Option.some.inj e
      cases e
      exact ⟨q.1, q.2.1, rfl, rfl⟩
  refine call_dict_pairsH (knd := tupleKind (mixKind X.prog X.w)) (ps := prs) PA (I.ok.hd hc) (tupleKind_room_in1 (A := X.A.in1) (by show X.A.units + 1 + 1 < cLine; omega)) ⟨⟨o, n, ho, hcl, hd, hdat⟩, items⟩ hav (fun h' hk x hx => ?_) (by rw [List.length_map, hl]; exact hz) fun h' tk dd k => ?_
  · have q1 : (tupleKind (mixKind X.prog X.w)).is s.heap x.1 x.2.1 := kt_key I.hok rel x hx
    obtain ⟨o, its, n, g1, g2, g3, g4⟩ := q1
    exact ⟨o, its, n, hk _ _ (Nat.ne_of_lt (Heap.lt_size g1)) (by simp) g1, g2, g3, g4⟩
  · have hm : (s.heap.objs.size == sysModules) = false := beq_eq_false_iff_ne.mpr (Nat.ne_of_gt I.big)
    have hlen : (mergeT [] kvs).length ≤ sizeLine := by
      refine Nat.le_trans (mergeT_len kvs []) ?_
      rw [List.length_nil, Nat.zero_add, hkl, hl]
      exact hz
    have hn : H s.heap.objs.size = none := I.hok.fresh (Nat.le_refl _)
    have kt : KT H (mergeT [] kvs) (storedAllH [] prs) := mergeT_kt rel .nil
    obtain ⟨q0, es, ep, hq0, h2, h3, h4, _, h5⟩ := dd
    refine ⟨.ref s.heap.objs.size, upd H s.heap.objs.size (.dT (mergeT [] kvs)), I.laid (t' := tk) (fun b o e => k b o (by simp) e) (Nat.le_refl _) ?_, rfl, q _ hn⟩
    show ObjOk X.prog X.w _ _ _ (.dT (mergeT [] kvs))
    refine ⟨hlen, hm, _, kt.keeps fun c ys ec => ?_, q0, es, ep, hq0, h2, h3, h4, h5⟩
    rw [upd_ne (ne_of_none ec hn)]
    exact ec
end
end Rf
end
section
namespace Rf
open PySem L2
/-! ### calls of built-ins -/
def Bi.val : Bi → Value
  | .len => .builtin "len" | .abs => .builtin "abs" | .all => .builtin "all" | .any => .builtin "any" | .int => .type "int" | .str => .type "str" | .list => .type "list" | .tuple => .type "tuple" | .dict => .type "dict"
  | .sorted => .builtin "sorted" | .sum => .builtin "sum" | .mn => .builtin "min"
def rb (K : Frg) (f : List D → Option D) : List V → Hp → VK → Prop := fun xs H Q => ∃ μ Ω ds d, Wf K H μ Ω ∧ Paired (View K H μ Ω) ds xs ∧ f ds = some d ∧ Want K H μ Ω d Q
section
variable {X : Cx}
theorem _root_.L2.CallR.lock {f : Value} {r : List V → Hp → VK → Prop} (h : CallR X f r) : CallR X f (fun xs H Q => r xs H fun v H1 => ∃ p u, v = .ref p ∧ H1 p = some u ∧ Mut (some u) ∧ ∀ od, Q v (upd H1 p (.frz od u))) := by
  intro pins s σ H xs us Q I rv q
  refine thn (h pins s σ H xs us _ I rv q) fun v s1 ⟨x, H1, I1, r1, p, u, e1, e2, m, k⟩ => ?_
  obtain ⟨od, I2⟩ := I1.lock e2 m
  exact ⟨x, _, I2, r1, k od⟩
theorem paired1 {α β : Type} {F : α → β → Prop} {x : α} {ys : List β} (h : Paired F [x] ys) : ∃ y, ys = [y] ∧ F x y := by
  cases h with
  | cons r t =>
    cases t
    exact ⟨_, rfl, r⟩
theorem paired2 {α β : Type} {F : α → β → Prop} {x x' : α} {ys : List β} (h : Paired F [x, x'] ys) : ∃ y y', ys = [y, y'] ∧ F x y ∧ F x' y' := by
  cases h with
  | cons r t =>
    obtain ⟨y', rfl, r'⟩ := paired1 t
    exact ⟨_, y', rfl, r, r'⟩
theorem len_seq {d : D} {xs : List D} {K : Frg} {H : Hp} {μ : Mu} {Ω : Sto} {v : V} (w : View K H μ Ω d v) (e : seqD d = some xs) : LenV K v H xs.length := by
  obtain ⟨p, vs, rfl, r, z, c⟩ := view_seq w e
  rcases c with c | c
  · exact .inl ⟨vs, c, r.length.symm⟩
  · exact .inr ⟨vs, c, r.length.symm⟩
theorem bools_rep {K : Frg} {G : Hp} {μ : Mu} {n : Nat} : ∀ {xs : List D} {vs : List V} {bs : List Bool}, Reps K G μ n xs vs → boolsD xs = some bs → vs = bs.map V.bl
  | [], vs, bs, h, e => by simp only [Reps] at h; cases e; rw [h]; rfl
  | d :: ds, vs, bs, h, e => by
    simp only [Reps] at h
    obtain ⟨v, ws, rfl, r, rs⟩ := h
    cases d with
    | bl b =>
      obtain ⟨bs', e1, rfl⟩ := Option.map_eq_some_iff.mp (show (boolsD ds).map (b :: ·) = some bs from e)
      simp only [Rep] at r
      rw [r, bools_rep rs e1]
      rfl
    | _ => cases e
theorem strs_rep {K : Frg} {G : Hp} {μ : Mu} {n : Nat} : ∀ {xs : List D} {vs : List V} {bs : List Str}, Reps K G μ n xs vs → strsD xs = some bs → vs = bs.map V.str
  | [], vs, bs, h, e => by simp only [Reps] at h; cases e; rw [h]; rfl
  | d :: ds, vs, bs, h, e => by
    simp only [Reps] at h
    obtain ⟨v, ws, rfl, r, rs⟩ := h
    cases d with
    | str b =>
      obtain ⟨bs', e1, rfl⟩ := Option.map_eq_some_iff.mp (show (strsD ds).map (b :: ·) = some bs from e)
      simp only [Rep] at r
      rw [r, strs_rep rs e1]
      rfl
    | _ => cases e
theorem ints_rep {K : Frg} {G : Hp} {μ : Mu} {n : Nat} : ∀ {xs : List D} {vs : List V} {bs : List Int}, Reps K G μ n xs vs → intsD xs = some bs → vs = bs.map V.int
  | [], vs, bs, h, e => by simp only [Reps] at h; cases e; rw [h]; rfl
  | d :: ds, vs, bs, h, e => by
    simp only [Reps] at h
    obtain ⟨v, ws, rfl, r, rs⟩ := h
    cases d with
    | int b =>
      obtain ⟨bs', e1, rfl⟩ := Option.map_eq_some_iff.mp (show (intsD ds).map (b :: ·) = some bs from e)
      simp only [Rep] at r
      rw [r, ints_rep rs e1]
      rfl
    | _ => cases e
theorem strs_back {K : Frg} {G : Hp} {μ : Mu} {n : Nat} : ∀ (ss : List Str), Reps K G μ n (ss.map .str) (ss.map V.str)
  | [] => Reps.nil
  | s :: r => Reps.cons (by simp only [Rep]) (strs_back r)
theorem ints_back {K : Frg} {G : Hp} {μ : Mu} {n : Nat} : ∀ (ss : List Int), Reps K G μ n (ss.map .int) (ss.map V.int)
  | [] => Reps.nil
  | s :: r => Reps.cons (by simp only [Rep]) (ints_back r)
theorem kD_rep {K : Frg} {G : Hp} {μ : Mu} {n : Nat} (k : Key) : Rep K G μ n (kD k) (kV k) := by
  cases k <;> simp only [kD, Rep, kV]
theorem keys_back {K : Frg} {G : Hp} {μ : Mu} {n : Nat} : ∀ {kvs : List (Key × D)} {ws : List (Key × V)}, RepK K G μ n kvs ws → Reps K G μ n (kvs.map fun kv => kD kv.1) (ws.map fun kv => kV kv.1)
  | [], ws, h => by simp only [RepK] at h; rw [h]; exact Reps.nil
  | (k, d) :: r, ws, h => by
    simp only [RepK] at h
    obtain ⟨v, w', rfl, rv, rr⟩ := h
    exact Reps.cons (kD_rep k) (keys_back rr)
theorem RepK.length {K : Frg} {G : Hp} {μ : Mu} {n : Nat} : ∀ {kvs : List (Key × D)} {ws : List (Key × V)}, RepK K G μ n kvs ws → ws.length = kvs.length
  | [], ws, h => by simp only [RepK] at h; rw [h]; rfl
  | (k, d) :: r, ws, h => by
    simp only [RepK] at h
    obtain ⟨v, w', rfl, rv, rr⟩ := h
    rw [List.length_cons, List.length_cons, RepK.length rr]
theorem RepT.length {K : Frg} {G : Hp} {μ : Mu} {n : Nat} : ∀ {kvs : List (List Key × D)} {ws : List (List Key × V)}, RepT K G μ n kvs ws → ws.length = kvs.length
  | [], ws, h => by simp only [RepT] at h; rw [h]; rfl
  | (k, d) :: r, ws, h => by
    simp only [RepT] at h
    obtain ⟨v, w', rfl, rv, rr⟩ := h
    rw [List.length_cons, List.length_cons, RepT.length rr]
/-! putting into a dict -/
theorem RepK.any {K : Frg} {G : Hp} {μ : Mu} {n : Nat} (k : Key) : ∀ {kvs : List (Key × D)} {ws : List (Key × V)}, RepK K G μ n kvs ws → (ws.any fun kv => decide (kv.1 = k)) = kvs.any fun kv => decide (kv.1 = k)
  | [], ws, h => by simp only [RepK] at h; rw [h]; rfl
  | (j, d) :: r, ws, h => by
    simp only [RepK] at h
    obtain ⟨v, w', rfl, rv, rr⟩ := h
    rw [List.any_cons, List.any_cons, RepK.any k rr]
theorem RepK.repl {K : Frg} {G : Hp} {μ : Mu} {n : Nat} (k : Key) {d : D} {v : V} (rd : Rep K G μ n d v) : ∀ {kvs : List (Key × D)} {ws : List (Key × V)}, RepK K G μ n kvs ws →
    RepK K G μ n (kvs.map fun kv => if kv.1 = k then (kv.1, d) else kv) (ws.map fun kv => if kv.1 = k then (kv.1, v) else kv)
  | [], ws, h => by simp only [RepK] at h; rw [h]; simp only [List.map_nil, RepK]
  | (j, x) :: r, ws, h => by
    simp only [RepK] at h
    obtain ⟨u, w', rfl, rv, rr⟩ := h
    rw [List.map_cons, List.map_cons]
    by_cases e : j = k
    · rw [if_pos e, if_pos e]
      simp only [RepK]
      exact ⟨v, _, rfl, rd, RepK.repl k rd rr⟩
    · rw [if_neg e, if_neg e]
      simp only [RepK]
      exact ⟨u, _, rfl, rv, RepK.repl k rd rr⟩
theorem RepK.snoc {K : Frg} {G : Hp} {μ : Mu} {n : Nat} (k : Key) {d : D} {v : V} (rd : Rep K G μ n d v) : ∀ {kvs : List (Key × D)} {ws : List (Key × V)}, RepK K G μ n kvs ws → RepK K G μ n (kvs ++ [(k, d)]) (ws ++ [(k, v)])
  | [], ws, h => by simp only [RepK] at h; rw [h]; simp only [List.nil_append, RepK]; exact ⟨v, [], rfl, rd, rfl⟩
  | (j, x) :: r, ws, h => by
    simp only [RepK] at h
    obtain ⟨u, w', rfl, rv, rr⟩ := h
    rw [List.cons_append, List.cons_append]
    simp only [RepK]
    exact ⟨u, _, rfl, rv, RepK.snoc k rd rr⟩
theorem RepK.put {K : Frg} {G : Hp} {μ : Mu} {n : Nat} (k : Key) {d : D} {v : V} (rd : Rep K G μ n d v) {kvs : List (Key × D)} {ws : List (Key × V)} (h : RepK K G μ n kvs ws) : RepK K G μ n (putKD kvs k d) (putK ws k v) := by
  unfold putKD putK
  rw [RepK.any k h]
  split
  · exact RepK.repl k rd h
  · exact RepK.snoc k rd h
theorem RepT.any {K : Frg} {G : Hp} {μ : Mu} {n : Nat} (k : List Key) : ∀ {kvs : List (List Key × D)} {ws : List (List Key × V)}, RepT K G μ n kvs ws → (ws.any fun kv => decide (kv.1 = k)) = kvs.any fun kv => decide (kv.1 = k)
  | [], ws, h => by simp only [RepT] at h; rw [h]; rfl
  | (j, d) :: r, ws, h => by
    simp only [RepT] at h
    obtain ⟨v, w', rfl, rv, rr⟩ := h
    rw [List.any_cons, List.any_cons, RepT.any k rr]
theorem RepT.repl {K : Frg} {G : Hp} {μ : Mu} {n : Nat} (k : List Key) {d : D} {v : V} (rd : Rep K G μ n d v) : ∀ {kvs : List (List Key × D)} {ws : List (List Key × V)}, RepT K G μ n kvs ws →
    RepT K G μ n (kvs.map fun kv => if kv.1 = k then (kv.1, d) else kv) (ws.map fun kv => if kv.1 = k then (kv.1, v) else kv)
  | [], ws, h => by simp only [RepT] at h; rw [h]; simp only [List.map_nil, RepT]
  | (j, x) :: r, ws, h => by
    simp only [RepT] at h
    obtain ⟨u, w', rfl, rv, rr⟩ := h
    rw [List.map_cons, List.map_cons]
    by_cases e : j = k
    · rw [if_pos e, if_pos e]
      simp only [RepT]
      exact ⟨v, _, rfl, rd, RepT.repl k rd rr⟩
    · rw [if_neg e, if_neg e]
      simp only [RepT]
      exact ⟨u, _, rfl, rv, RepT.repl k rd rr⟩
theorem RepT.snoc {K : Frg} {G : Hp} {μ : Mu} {n : Nat} (k : List Key) {d : D} {v : V} (rd : Rep K G μ n d v) : ∀ {kvs : List (List Key × D)} {ws : List (List Key × V)}, RepT K G μ n kvs ws → RepT K G μ n (kvs ++ [(k, d)]) (ws ++ [(k, v)])
  | [], ws, h => by simp only [RepT] at h; rw [h]; simp only [List.nil_append, RepT]; exact ⟨v, [], rfl, rd, rfl⟩
  | (j, x) :: r, ws, h => by
    simp only [RepT] at h
    obtain ⟨u, w', rfl, rv, rr⟩ := h
    rw [List.cons_append, List.cons_append]
    simp only [RepT]
    exact ⟨u, _, rfl, rv, RepT.snoc k rd rr⟩
theorem RepT.put {K : Frg} {G : Hp} {μ : Mu} {n : Nat} (k : List Key) {d : D} {v : V} (rd : Rep K G μ n d v) {kvs : List (List Key × D)} {ws : List (List Key × V)} (h : RepT K G μ n kvs ws) : RepT K G μ n (putKD kvs k d) (putK ws k v) := by
  unfold putKD putK
  rw [RepT.any k h]
  split
  · exact RepT.repl k rd h
  · exact RepT.snoc k rd h
theorem merge_rep {K : Frg} {G : Hp} {μ : Mu} {n : Nat} : ∀ {more : List (Key × D)} {ms : List (Key × V)} {kvs : List (Key × D)} {ws : List (Key × V)}, RepK K G μ n more ms → RepK K G μ n kvs ws → RepK K G μ n (mergeD kvs more) (mergeK ws ms)
  | [], ms, kvs, ws, h, r => by simp only [RepK] at h; rw [h]; exact r
  | (k, d) :: more, ms, kvs, ws, h, r => by
    simp only [RepK] at h
    obtain ⟨v, w', rfl, rv, rr⟩ := h
    show RepK K G μ n (mergeD (putKD kvs k d) more) (mergeK (putK ws k v) w')
    exact merge_rep rr (r.put k rv)
/-! the built-ins one by one -/
theorem len_ok : CallR X (.builtin "len") (rb X.K (biD .len)) := by
  intro pins s σ H xs us Q I r h
  obtain ⟨μ, Ω, ds, d, w, va, e, k⟩ := h
  match ds, e with
  | [c], e =>
    obtain ⟨v, rfl, vc⟩ := paired1 va
    have fin : ∀ n : Nat, LenV X.K v H n → d = .int n → wpAny (model X.prog X.w) X.A (call (.builtin "len") us) (EP X pins σ Q) X.xe s := fun n hn he => by
      subst he
      exact call_len pins s σ H [v] us Q I r ⟨v, n, rfl, hn, k.int w⟩
    cases c with
    | str z =>
      obtain ⟨hz, e1⟩ := opt_if (show (if z.length ≤ big then some (D.int z.length) else none) = some d from e)
      simp only [View] at vc
      subst vc
      exact fin z.length ⟨big_eq ▸ hz, rfl⟩ e1.symm
    | dk kvs =>
      cases e
      obtain ⟨p, ws, rfl, rr, c⟩ := vc
      obtain ⟨u, rfl, ru⟩ := vals1 r
      cases ru
      exact d_len I c fun t s' I' => ⟨.int ws.length, H, I', ⟨t, rfl⟩, by rw [rr.length]; exact k.int w⟩
    | dt kvs =>
      cases e
      obtain ⟨p, ws, rfl, rr, c⟩ := vc
      obtain ⟨u, rfl, ru⟩ := vals1 r
      cases ru
      obtain ⟨z, hd, ys, q1, dd⟩ := dt_rd I.hok c
      have e1 : ws.length = ys.length := Paired.length q1
      refine call_len_dictH hd dd (by rw [← e1]; have := line63; omega) ?_
      rw [← e1]
      exact ⟨.int ((ws.length : Nat) : Int), H, I.tok _, ⟨_, rfl⟩, by rw [rr.length]; exact k.int w⟩
    | lst ys => cases e; exact fin _ (len_seq vc rfl) rfl
    | tup ys => cases e; exact fin _ (len_seq vc rfl) rfl
    | e0 => cases e; exact fin _ (len_seq vc rfl) rfl
    | scr ys => cases e; exact fin _ (len_seq vc rfl) rfl
    | _ => cases e
  | [], e => cases e
  | _ :: _ :: _, e => cases e
theorem abs_ok : CallR X (.builtin "abs") (rb X.K (biD .abs)) := by
  intro pins s σ H xs us Q I r h
  obtain ⟨μ, Ω, ds, d, w, va, e, k⟩ := h
  match ds, e with
  | [.int i], e =>
    obtain ⟨v, rfl, vc⟩ := paired1 va
    cases e
    simp only [View] at vc
    subst vc
    exact call_abs pins s σ H _ us Q I r ⟨i, rfl, k.int w⟩
theorem all_ok (hc : X.calm = true) : CallR X (.builtin "all") (rb X.K (biD .all)) := by
  intro pins s σ H xs us Q I r h
  obtain ⟨μ, Ω, ds, d, w, va, e, k⟩ := h
  match ds, e with
  | [.lst ys], e =>
    obtain ⟨v, rfl, vc⟩ := paired1 va
    obtain ⟨bs, e1, rfl⟩ := Option.map_eq_some_iff.mp (show (boolsD ys).map (fun bs => D.bl (bs.all id)) = some d from e)
    obtain ⟨p, vs, rfl, rr, z, c⟩ := vc
    rw [bools_rep rr e1] at c
    exact cr_all hc pins s σ H _ us Q I r ⟨p, bs, rfl, .inl (.inl c), k.bl w⟩
theorem any_ok (hc : X.calm = true) : CallR X (.builtin "any") (rb X.K (biD .any)) := by
  intro pins s σ H xs us Q I r h
  obtain ⟨μ, Ω, ds, d, w, va, e, k⟩ := h
  match ds, e with
  | [.lst ys], e =>
    obtain ⟨v, rfl, vc⟩ := paired1 va
    obtain ⟨bs, e1, rfl⟩ := Option.map_eq_some_iff.mp (show (boolsD ys).map (fun bs => D.bl (bs.any id)) = some d from e)
    obtain ⟨p, vs, rfl, rr, z, c⟩ := vc
    rw [bools_rep rr e1] at c
    exact cr_any hc pins s σ H _ us Q I r ⟨p, bs, rfl, .inl (.inl c), k.bl w⟩
theorem int_ok : CallR X (.type "int") (rb X.K (biD .int)) := by
  intro pins s σ H xs us Q I r h
  obtain ⟨μ, Ω, ds, d, w, va, e, k⟩ := h
  match ds, e with
  | [.int i], e =>
    obtain ⟨v, rfl, vc⟩ := paired1 va
    cases e
    simp only [View] at vc
    subst vc
    exact call_int1 pins s σ H _ us Q I r (.inl ⟨i, rfl, k.int w⟩)
  | [.bl b], e =>
    obtain ⟨v, rfl, vc⟩ := paired1 va
    cases e
    simp only [View] at vc
    subst vc
    exact call_int1 pins s σ H _ us Q I r (.inr ⟨b, rfl, k.int w⟩)
theorem str_ok : CallR X (.type "str") (rb X.K (biD .str)) := by
  intro pins s σ H xs us Q I r h
  obtain ⟨μ, Ω, ds, d, w, va, e, k⟩ := h
  match ds, e with
  | [.str i], e =>
    obtain ⟨v, rfl, vc⟩ := paired1 va
    cases e
    simp only [View] at vc
    subst vc
    exact SkE.call_str_str pins s σ H _ us Q I r ⟨i, rfl, k.str w⟩
  | [.int i], e =>
    obtain ⟨v, rfl, vc⟩ := paired1 va
    obtain ⟨hz, rfl⟩ := opt_if (show (if i.natAbs.log2 < 1920 then some (D.str (toString i)) else none) = some d from e)
    simp only [View] at vc
    subst vc
    exact call_str_int pins s σ H _ us Q I r ⟨i, rfl, hz, k.str w⟩
/-- list(d) of a dict that may be known -/
theorem list_dk {pins : List (Addr × Obj)} {s : Shared} {σ : St} {H : Hp} {p : Addr} {kvs : List (Key × V)} {Q : VK} (hc : X.calm = true) (I : Inv X pins σ H s) (c : Rd H p (.dK kvs))
    (q : ∀ a, H a = none → Q (.ref a) (upd H a (.lst (kvs.map fun kv => kV kv.1)))) : wpAny (model X.prog X.w) X.A (call (.type "list") [.ref p]) (EP X pins σ Q) X.xe s := by
  obtain ⟨z, lo, vs, rk, hd⟩ := dk_rd I.hok c
  obtain ⟨ep, hat⟩ := hd.dictAt
  have hl : kvs.length = vs.length := KV.length rk
  have hz : vs.length ≤ sizeLine := hl ▸ z
  have ek : (kvs.map fun kv => kV kv.1) = (vs.map (·.1)).map kV := by
    rw [← KV.keys rk, List.map_map]
    rfl
  refine PySem.W.kdl_call (PySem.W.kdl_dict (knd := mixKind X.prog X.w) (kvs := vs) (ep := ep) lo) (I.ok.hd hc) hat hz fun h' tk acc' c' hkeep hS hacc => ?_
  have vals : Vals (kvs.map fun kv => kV kv.1) acc'.toList := by
    rw [ek]
    refine vals_of_at ?_ fun j x w h1 h2 => ?_
    · have ea : acc'.size = vs.length := hacc.1
      have eb : acc'.toList.length = acc'.size := by simp
      rw [List.length_map, List.length_map, eb, ea]
    · rw [Array.getElem?_toList] at h2
      obtain ⟨k, y, hky, hi⟩ := hacc.2 j w h2
      rw [List.getElem?_map, List.getElem?_map, hky] at h1
      cases h1
      exact keyIs_rel hi
  have new : ObjOk X.prog X.w (upd H s.heap.objs.size (.lst (kvs.map fun kv => kV kv.1))) h' s.heap.objs.size (.lst (kvs.map fun kv => kV kv.1)) :=
    ⟨by rw [List.length_map]; exact z, acc'.toList, c', vals, by rw [Array.toArray_toList]; exact hS⟩
  exact ⟨.ref s.heap.objs.size, _, I.laid hkeep (Nat.le_refl _) new, rfl, q _ (I.hok.fresh (Nat.le_refl _))⟩
theorem list_ok (hc : X.calm = true) : CallR X (.type "list") (rb X.K (biD .list)) := by
  intro pins s σ H xs us Q I r h
  obtain ⟨μ, Ω, ds, d, w, va, e, k⟩ := h
  have seq : ∀ (c : D) (ys : List D), ds = [c] → seqD c = some ys → d = .lst ys → wpAny (model X.prog X.w) X.A (call (.type "list") us) (EP X pins σ Q) X.xe s := fun c ys e1 e2 e3 => by
    subst e1 e3
    obtain ⟨v, rfl, vc⟩ := paired1 va
    obtain ⟨p, vs, rfl, rr, z, c⟩ := view_seq vc e2
    exact call_list_of pins s σ H _ us Q I r ⟨p, vs, rfl, c, k.lst w rr z⟩
  match ds, e with
  | [.dk kvs], e =>
    cases e
    obtain ⟨v, rfl, vc⟩ := paired1 va
    obtain ⟨p, ws, rfl, rr, c⟩ := vc
    obtain ⟨u, rfl, ru⟩ := vals1 r
    cases ru
    exact list_dk hc I c (k.lst w (keys_back rr) (by rw [List.length_map]; exact (dk_rd I.hok c).1))
  | [.lst ys], e => cases e; exact seq _ ys rfl rfl rfl
  | [.tup ys], e => cases e; exact seq _ ys rfl rfl rfl
  | [.e0], e => cases e; exact seq _ [] rfl rfl rfl
  | [.scr ns], e => cases e; exact seq _ _ rfl rfl rfl
  | [.non], e => cases e
  | [.bl _], e => cases e
  | [.int _], e => cases e
  | [.str _], e => cases e
  | [.dt _], e => cases e
  | [.ins _ _], e => cases e
  | [.hd _], e => cases e
  | [], e => cases e
  | _ :: _ :: _, e => cases e
theorem tuple_ok : CallR X (.type "tuple") (rb X.K (biD .tuple)) := by
  intro pins s σ H xs us Q I r h
  obtain ⟨μ, Ω, ds, d, w, va, e, k⟩ := h
  match ds, e with
  | [.lst ys], e =>
    cases e
    obtain ⟨v, rfl, vc⟩ := paired1 va
    obtain ⟨p, vs, rfl, rr, z, c⟩ := vc
    exact call_tuple_of pins s σ H _ us Q I r ⟨p, vs, rfl, .inl ⟨.inl (.inl c), k.tup w rr z⟩⟩
  | [.tup ys], e =>
    cases e
    obtain ⟨v, rfl, vc⟩ := paired1 va
    obtain ⟨p, vs, rfl, rr, z, c, _, rp⟩ := vc
    exact call_tuple_of pins s σ H _ us Q I r ⟨p, vs, rfl, .inr ⟨c, k.now w rp⟩⟩
theorem pairs_rep {K : Frg} {H : Hp} {μ : Mu} {Ω : Sto} {n : Nat} : ∀ {xs : List D} {vs : List V} {kvs : List (Key × D)}, Reps K (Fz H μ Ω) μ n xs vs → pairsD xs = some kvs →
    ∃ (ps : List Addr) (ws : List (Key × V)), vs = ps.map V.ref ∧ RepK K (Fz H μ Ω) μ n kvs ws ∧ Paired (fun p kv => SqT K H p [kV kv.1, kv.2]) ps ws
  | [], vs, kvs, h, e => by
    simp only [Reps] at h
    cases e
    exact ⟨[], [], h, by simp only [RepK], .nil⟩
  | d :: ds, vs, kvs, h, e => by
    simp only [Reps] at h
    obtain ⟨v, us, rfl, r, rs⟩ := h
    match d, e with
    | .tup [a, b], e =>
      unfold pairsD at e
      cases e1 : keyD a with
      | none => rw [e1] at e; cases e
      | some q =>
        cases e2 : pairsD ds with
        | none => rw [e1, e2] at e; cases e
        | some more =>
          rw [e1, e2] at e
          cases e
          obtain ⟨ps, ws, rfl, rr, pp⟩ := pairs_rep rs e2
          simp only [Rep, Reps] at r
          obtain ⟨p, zs, rfl, ⟨x, ys, rfl, rx, y, l, rfl, ry, rfl⟩, z, c⟩ := r
          have hx := key_rep rx e1
          subst hx
          refine ⟨p :: ps, (q, y) :: ws, rfl, ?_, .cons ?_ pp⟩
          · simp only [RepK]
            exact ⟨y, ws, rfl, ry, rr⟩
          · rcases c with c | ⟨_, c⟩
            · exact .inl (.inl (Fz.le c))
            · exact Fz.sqt c
theorem mergeT_rep {K : Frg} {G : Hp} {μ : Mu} {n : Nat} : ∀ {more : List (List Key × D)} {ms : List (List Key × V)} {kvs : List (List Key × D)} {ws : List (List Key × V)}, RepT K G μ n more ms → RepT K G μ n kvs ws → RepT K G μ n (mergeD kvs more) (mergeT ws ms)
  | [], ms, kvs, ws, h, r => by simp only [RepT] at h; rw [h]; exact r
  | (k, d) :: more, ms, kvs, ws, h, r => by
    simp only [RepT] at h
    obtain ⟨v, w', rfl, rv, rr⟩ := h
    show RepT K G μ n (mergeD (putKD kvs k d) more) (mergeT (putK ws k v) w')
    exact mergeT_rep rr (r.put k rv)
theorem tkey_rep {K : Frg} {H : Hp} {μ : Mu} {Ω : Sto} {n : Nat} {d : D} {v : V} {k : List Key} (h : Rep K (Fz H μ Ω) μ n d v) (e : tkeyD d = some k) : ∃ b, v = .ref b ∧ H b = some (.tup (k.map kV)) := by
  cases d with
  | tup xs =>
    have e : (if fracB xs = true then none else keysD xs) = some k := e
    cases hf : fracB xs with
    | true => rw [hf, if_pos rfl] at e; cases e
    | false =>
      rw [hf, if_neg Bool.false_ne_true] at e
      simp only [Rep] at h
      obtain ⟨p, vs, e1, r, z, c⟩ := h
      rw [keys_rep r e] at c
      rcases c with c | ⟨c, _⟩
      · exact ⟨p, e1, Fz.le c⟩
      · rw [hf] at c; cases c
  | _ => cases e
theorem tpairs_rep {K : Frg} {H : Hp} {μ : Mu} {Ω : Sto} {n : Nat} : ∀ {xs : List D} {vs : List V} {kvs : List (List Key × D)}, Reps K (Fz H μ Ω) μ n xs vs → tpairsD xs = some kvs →
    ∃ (ps : List Addr) (ws : List (List Key × V)), vs = ps.map V.ref ∧ RepT K (Fz H μ Ω) μ n kvs ws ∧ Paired (fun p kv => ∃ b : Addr, SqT K H p [.ref b, kv.2] ∧ H b = some (.tup (kv.1.map kV))) ps ws
  | [], vs, kvs, h, e => by
    simp only [Reps] at h
    cases e
    exact ⟨[], [], h, by simp only [RepT], .nil⟩
  | d :: ds, vs, kvs, h, e => by
    simp only [Reps] at h
    obtain ⟨v, us, rfl, r, rs⟩ := h
    match d, e with
    | .tup [a, b], e =>
      unfold tpairsD at e
      cases e1 : tkeyD a with
      | none => rw [e1] at e; cases e
      | some q =>
        cases e2 : tpairsD ds with
        | none => rw [e1, e2] at e; cases e
        | some more =>
          rw [e1, e2] at e
          cases e
          obtain ⟨ps, ws, rfl, rr, pp⟩ := tpairs_rep rs e2
          simp only [Rep, Reps] at r
          obtain ⟨p, zs, rfl, ⟨x, ys, rfl, rx, y, l, rfl, ry, rfl⟩, z, c⟩ := r
          obtain ⟨b, rfl, hb⟩ := tkey_rep rx e1
          refine ⟨p :: ps, (q, y) :: ws, rfl, ?_, .cons ⟨b, ?_, hb⟩ pp⟩
          · simp only [RepT]
            exact ⟨y, ws, rfl, ry, rr⟩
          · rcases c with c | ⟨_, c⟩
            · exact .inl (.inl (Fz.le c))
            · exact Fz.sqt c
theorem dict_ok (hc : X.calm = true) (hu : X.A.units + 64 < cLine) : CallR X (.type "dict") (rb X.K (biD .dict)) := by
  intro pins s σ H xs us Q I r h
  obtain ⟨μ, Ω, ds, d, w, va, e, k⟩ := h
  match ds, e with
  | [.dk kvs], e =>
    cases e
    obtain ⟨v, rfl, vc⟩ := paired1 va
    obtain ⟨p, ws, rfl, rr, c⟩ := vc
    obtain ⟨u, rfl, ru⟩ := vals1 r
    cases ru
    refine d_copyOf I c fun p' s' hp I' => ?_
    obtain ⟨od, I2⟩ := I'.lock upd_same trivial
    rw [upd_upd] at I2
    obtain ⟨ex, rp⟩ := res_dk (od := od) w rr hp
    exact ⟨.ref p', _, I2, rfl, k _ _ ex rp⟩
  | [.lst ys], e =>
    obtain ⟨v, rfl, vc⟩ := paired1 va
    have e : (match pairsD ys with | some kvs => some (D.dk (mergeD [] kvs)) | none => (tpairsD ys).map fun kvs => D.dt (mergeD [] kvs)) = some d := e
    obtain ⟨p, vs, rfl, rr, z, c⟩ := vc
    cases e1 : pairsD ys with
    | none =>
      rw [e1] at e
      obtain ⟨kvs, e2, rfl⟩ := Option.map_eq_some_iff.mp e
      obtain ⟨ps, ws, rfl, r2, pp⟩ := tpairs_rep rr e2
      refine CallR.lock (call_dictPT hc hu) pins s σ H _ us Q I r ⟨p, ps, ws, rfl, .inl (.inl c), pp, fun p' hp => ⟨p', _, rfl, upd_same, trivial, fun od => ?_⟩⟩
      rw [upd_upd]
      obtain ⟨ex, rp⟩ := res_dt (od := od) w (mergeT_rep r2 (by simp only [RepT] : RepT X.K (Fz H μ Ω) μ Ω.length [] [])) hp
      exact k _ _ ex rp
    | some kvs =>
    rw [e1] at e
    cases e
    obtain ⟨ps, ws, rfl, r2, pp⟩ := pairs_rep rr e1
    refine CallR.lock (call_dictP hc) pins s σ H _ us Q I r ⟨p, ps, ws, rfl, .inl (.inl c), pp, fun p' hp => ⟨p', _, rfl, upd_same, trivial, fun od => ?_⟩⟩
    rw [upd_upd]
    obtain ⟨ex, rp⟩ := res_dk (od := od) w (merge_rep r2 (by simp only [RepK] : RepK X.K (Fz H μ Ω) μ Ω.length [] [])) hp
    exact k _ _ ex rp
theorem sum_ok (hc : X.calm = true) : CallR X (.builtin "sum") (rb X.K (biD .sum)) := by
  intro pins s σ H xs us Q I r h
  obtain ⟨μ, Ω, ds, d, w, va, e, k⟩ := h
  match ds, e with
  | [.lst ys], e =>
    obtain ⟨v, rfl, vc⟩ := paired1 va
    obtain ⟨bs, e1, rfl⟩ := Option.map_eq_some_iff.mp (show (intsD ys).map (fun ns => D.int ns.sum) = some d from e)
    obtain ⟨p, vs, rfl, rr, z, c⟩ := vc
    rw [ints_rep rr e1] at c
    exact cr_sum hc pins s σ H _ us Q I r ⟨p, bs, rfl, .inl (.inl c), k.int w⟩
end
end Rf
end
section
namespace Rf
open PySem L2
/-! ### one construct after another: from the parts' readings to the whole's -/
section
variable {K : Frg} {W : WX} {σ : St} {H H' : Hp} {μ μ' : Mu} {Ω Ω' : Sto} {ρ : Env} {ft : FT}
theorem Post.opt {α β : Type} {rel : Rl α β} {o : Option α} {Q : β → Hp → Prop} (p : Post K rel W σ H μ Ω (Rf.opt o Ω) Q) : ∃ a, o = some a ∧ ∀ b H', Ext K H μ Ω H' μ Ω → rel H' μ Ω a b → Q b H' := by
  cases o with
  | none => exact p.ne
  | some a => exact ⟨a, rfl, fun b H' e r => p b H' μ e r⟩
theorem Post.optD {o : Option D} {Q : VK} (p : Post K (rD K) W σ H μ Ω (Rf.opt o Ω) Q) : ∃ d, o = some d ∧ Want K H μ Ω d Q := p.opt
/-- two parts -/
theorem two {a b : E} {f : D → D → Sto → R D} {Q : VK} (at_ : At K σ H μ Ω ρ) (p : Post K (rD K) W σ H μ Ω ((evE ft a ρ Ω).bind fun x Ω => (evE ft b ρ Ω).bind fun y Ω => f x y Ω) Q) :
    TEv K W ft a σ H fun v H1 => TEv K W ft b σ H1 fun u H2 => ∃ μ2 Ω2 x y, At K σ H2 μ2 Ω2 ρ ∧ Rep K (Fz H2 μ2 Ω2) μ2 Ω2.length x v ∧ Rep K (Fz H2 μ2 Ω2) μ2 Ω2.length y u ∧ Post K (rD K) W σ H2 μ2 Ω2 (f x y Ω2) Q := by
  refine ⟨μ, Ω, ρ, at_, (Post.bind p).mono ?_⟩
  rintro v H1 ⟨μ1, Ω1, x, _, ex1, r1, p1⟩
  refine ⟨μ1, Ω1, ρ, at_.ext ex1, (Post.bind p1).mono ?_⟩
  rintro u H2 ⟨μ2, Ω2, y, _, ex2, r2, p2⟩
  exact ⟨μ2, Ω2, x, y, (at_.ext ex1).ext ex2, Rep.tr ex2.tr _ _ r1, r2, p2⟩
theorem one {a : E} {f : D → Sto → R D} {Q : VK} (at_ : At K σ H μ Ω ρ) (p : Post K (rD K) W σ H μ Ω ((evE ft a ρ Ω).bind f) Q) :
    TEv K W ft a σ H fun v H1 => ∃ μ1 Ω1 x, At K σ H1 μ1 Ω1 ρ ∧ Rep K (Fz H1 μ1 Ω1) μ1 Ω1.length x v ∧ Post K (rD K) W σ H1 μ1 Ω1 (f x Ω1) Q := by
  refine ⟨μ, Ω, ρ, at_, (Post.bind p).mono ?_⟩
  rintro v H1 ⟨μ1, Ω1, x, _, ex1, r1, p1⟩
  exact ⟨μ1, Ω1, x, at_.ext ex1, r1, p1⟩
theorem many {es : EL} {f : List D → Sto → R D} {Q : VK} (at_ : At K σ H μ Ω ρ) (p : Post K (rD K) W σ H μ Ω ((evL ft es ρ Ω).bind f) Q) :
    TAv K W ft es σ H fun vs H1 => ∃ μ1 Ω1 ds, At K σ H1 μ1 Ω1 ρ ∧ Reps K (Fz H1 μ1 Ω1) μ1 Ω1.length ds vs ∧ Post K (rD K) W σ H1 μ1 Ω1 (f ds Ω1) Q := by
  refine ⟨μ, Ω, ρ, at_, (Post.bind p).mono ?_⟩
  rintro v H1 ⟨μ1, Ω1, x, _, ex1, r1, p1⟩
  exact ⟨μ1, Ω1, x, at_.ext ex1, r1, p1⟩
theorem views : ∀ {ds : List D} {vs : List V} (w : Wf K H μ Ω), Reps K (Fz H μ Ω) μ Ω.length ds vs → Paired (View K H μ Ω) (ds.map (lk Ω)) vs
  | [], vs, w, h => by simp only [Reps] at h; subst h; exact .nil
  | d :: ds, vs, w, h => by
    simp only [Reps] at h
    obtain ⟨v, ws, rfl, r, rs⟩ := h
    exact .cons (view w r) (views w rs)
theorem pbool {d : D} {α β : Type} {rel : Rl α β} {f : Bool → Sto → R α} {Q : β → Hp → Prop} (p : Post K rel W σ H μ Ω ((asBool d Ω).bind f) Q) : ∃ b, d = .bl b ∧ Post K rel W σ H μ Ω (f b Ω) Q := by
  cases d with
  | bl b => exact ⟨b, rfl, p⟩
  | _ => exact False.elim p
end
section
variable {X : Cx} {W : WX} {ft : FT} {pos : Pos} {l r m : Expr} {a b c : E} {es : List Expr} {el : EL}
theorem s_non {k : Nat} : PE X (.Constant .none k pos) (TEv X.K W ft .non) := pe_non.imp fun σ H Q ⟨μ, Ω, ρ, at_, p⟩ => p.here at_.wf (by simp only [rD, Rep])
theorem s_bl {k : Nat} {t : Bool} : PE X (.Constant (.bool t) k pos) (TEv X.K W ft (.bl t)) := pe_bl.imp fun σ H Q ⟨μ, Ω, ρ, at_, p⟩ => p.here at_.wf (by simp only [rD, Rep])
theorem s_int {k : Nat} {t : Int} : PE X (.Constant (.int t) k pos) (TEv X.K W ft (.int t)) := pe_int.imp fun σ H Q ⟨μ, Ω, ρ, at_, p⟩ => p.here at_.wf (by simp only [rD, Rep])
theorem s_str {k : Nat} {t : Str} : PE X (.Constant (.str t) k pos) (TEv X.K W ft (.str t)) := pe_str.imp fun σ H Q ⟨μ, Ω, ρ, at_, p⟩ => p.here at_.wf (by simp only [rD, Rep])
theorem s_var {i : Nat} {x : Str} (hN : X.N[i]? = some x) (hv : Vis X.env.scope x) (hd : (x == ("__debug__" : Str)) = false) (hcd : (x == ("__classdict__" : Str)) = false) : PE X (.Name x pos) (TEv X.K W ft (.var i)) := by
  refine (pe_var hN hv hd hcd).imp fun σ H Q ⟨μ, Ω, ρ, at_, p⟩ => ?_
  have p : Post X.K (rD X.K) W σ H μ Ω (match (ρ[i]? : Option (Option D)) with | some (some d) => .ok d Ω | _ => .bad) Q := p
  cases e : ρ[i]? with
  | none => rw [e] at p; exact False.elim p
  | some o =>
    cases o with
    | none => rw [e] at p; exact False.elim p
    | some d =>
      rw [e] at p
      obtain ⟨v, e1, rv⟩ := at_.env.2 i d e
      exact ⟨v, e1, p.here at_.wf rv⟩
theorem s_glo {x : Str} {d : D} {v : V} {u : Value} (hg : Gl X x) (hm : X.mg x = some u) (rv : RelV v u) (hd : (x == ("__debug__" : Str)) = false) (hc : ft.con x = some d) (hr : ∀ G μ n, Rep X.K G μ n d v) : PE X (.Name x pos) (TEv X.K W ft (.glo x)) := by
  refine (pe_glob hg hm rv hd).imp fun σ H Q ⟨μ, Ω, ρ, at_, p⟩ => ?_
  have p : Post X.K (rD X.K) W σ H μ Ω (opt (ft.con x) Ω) Q := p
  rw [hc] at p
  exact p.here at_.wf (hr _ _ _)
theorem s_op2 {o : Operator} (ha : PE X l (TEv X.K W ft a)) (hb : PE X r (TEv X.K W ft b)) : PE X (.BinOp l o r pos) (TEv X.K W ft (.op2 o a b)) := by
  refine (pe_op (op2_ok o) ha hb).imp fun σ H Q ⟨μ, Ω, ρ, at_, p⟩ => ?_
  obtain ⟨μ0, Ω0, ρ0, a0, p0⟩ := two at_ p
  refine ⟨μ0, Ω0, ρ0, a0, p0.mono ?_⟩
  rintro v H1 ⟨μ1, Ω1, ρ1, a1, p1⟩
  refine ⟨μ1, Ω1, ρ1, a1, p1.mono ?_⟩
  rintro u H2 ⟨μ2, Ω2, x, y, a2, r1, r2, p2⟩
  obtain ⟨d, e, k⟩ := p2.optD
  exact ⟨μ2, Ω2, _, _, d, a2.wf, view a2.wf r1, view a2.wf r2, e, k⟩
theorem s_neg (ha : PE X l (TEv X.K W ft a)) : PE X (.UnaryOp .USub l pos) (TEv X.K W ft (.neg a)) := by
  refine (pe_un un_neg ha).imp fun σ H Q ⟨μ, Ω, ρ, at_, p⟩ => ?_
  obtain ⟨μ0, Ω0, ρ0, a0, p0⟩ := one at_ p
  refine ⟨μ0, Ω0, ρ0, a0, p0.mono ?_⟩
  rintro v H1 ⟨μ1, Ω1, x, a1, r1, p1⟩
  cases x with
  | int i =>
    simp only [Rep] at r1
    exact ⟨i, r1, Post.here (rel := rD X.K) p1 a1.wf (by simp only [rD, Rep])⟩
  | _ => exact False.elim p1
theorem s_not (ha : PE X l (TEv X.K W ft a)) : PE X (.UnaryOp .Not l pos) (TEv X.K W ft (.not a)) := by
  refine (pe_not ha).imp fun σ H Q ⟨μ, Ω, ρ, at_, p⟩ => ?_
  obtain ⟨μ0, Ω0, ρ0, a0, p0⟩ := one at_ p
  refine ⟨μ0, Ω0, ρ0, a0, p0.mono ?_⟩
  rintro v H1 ⟨μ1, Ω1, x, a1, r1, p1⟩
  obtain ⟨t, rfl, p2⟩ := pbool p1
  simp only [Rep] at r1
  exact ⟨t, r1, Post.here (rel := rD X.K) p2 a1.wf (by simp only [rD, Rep])⟩
/-- a test: the value is a bool -/
theorem tt_te {e : E} {σ : St} {H : Hp} {Q : Bool → Hp → Prop} (h : TTv X.K W ft e σ H Q) : TEv X.K W ft e σ H fun x H1 => ∃ c, x = .bl c ∧ Q c H1 := by
  obtain ⟨μ, Ω, ρ, at_, p⟩ := h
  refine ⟨μ, Ω, ρ, at_, (Post.bind (rel := rD X.K) (show Post X.K rQ W σ H μ Ω ((evE ft e ρ Ω).bind asBool) Q from p)).mono ?_⟩
  rintro v H1 ⟨μ1, Ω1, x, _, ex1, r1, p1⟩
  cases x with
  | bl t =>
    simp only [rD, Rep] at r1
    exact ⟨t, r1, Post.here (rel := rQ) p1 ex1.wf rfl⟩
  | _ => exact False.elim p1
theorem i_cmp {o : CmpOp} {σ : St} {H : Hp} {Q : VK} (h : TEv X.K W ft (.cmp o a b) σ H Q) : tOp (rc X.K (cmpD o)) (TEv X.K W ft a) (TEv X.K W ft b) σ H Q := by
  obtain ⟨μ, Ω, ρ, at_, p⟩ := h
  obtain ⟨μ0, Ω0, ρ0, a0, p0⟩ := two at_ p
  refine ⟨μ0, Ω0, ρ0, a0, p0.mono ?_⟩
  rintro v H1 ⟨μ1, Ω1, ρ1, a1, p1⟩
  refine ⟨μ1, Ω1, ρ1, a1, p1.mono ?_⟩
  rintro u H2 ⟨μ2, Ω2, x, y, a2, r1, r2, p2⟩
  cases e : cmpD o (lk Ω2 x) (lk Ω2 y) with
  | none => rw [e] at p2; exact False.elim p2
  | some t =>
    rw [e] at p2
    exact ⟨μ2, Ω2, _, _, t, a2.wf, view a2.wf r1, view a2.wf r2, e, Post.here (rel := rD X.K) p2 a2.wf (by simp only [rD, Rep])⟩
theorem s_cmp {o : CmpOp} (hu : X.A.units + 64 < cLine) (ha : PE X l (TEv X.K W ft a)) (hb : PE X r (TEv X.K W ft b)) (hm : behindInMarks o r = false) : PE X (.Compare l [o] [r] pos) (TEv X.K W ft (.cmp o a b)) :=
  (pe_cmpR (cmp_ok hu o) ha hb hm).imp fun _ _ _ h => i_cmp h
theorem t_cmp {o : CmpOp} (hu : X.A.units + 64 < cLine) (ha : PE X l (TEv X.K W ft a)) (hb : PE X r (TEv X.K W ft b)) (hm : behindInMarks o r = false) : PT X (.Compare l [o] [r] pos) (TTv X.K W ft (.cmp o a b)) :=
  (pt_cmpR (cmp_ok hu o) ha hb hm).imp fun _ _ _ h => i_cmp (tt_te h)
/-- a test by its value -/
theorem t_val {e : Expr} (ha : PE X e (TEv X.K W ft a)) (he : ∀ whole, isTrue e X.env whole = (do let v ← whole; standAt e.pos; holding [v] (truthy v))) : PT X e (TTv X.K W ft a) :=
  (pt_val ha he).imp fun _ _ _ h => tt_te h
theorem t_not (ha : PT X l (TTv X.K W ft a)) : PT X (.UnaryOp .Not l pos) (TTv X.K W ft (.not a)) := by
  refine (pt_not ha).imp fun σ H Q ⟨μ, Ω, ρ, at_, p⟩ => ?_
  refine ⟨μ, Ω, ρ, at_, ?_⟩
  have p : Post X.K rQ W σ H μ Ω (((evE ft a ρ Ω).bind fun x Ω => (asBool x Ω).bind fun b Ω => R.ok (D.bl (!b)) Ω).bind asBool) Q := p
  show Post X.K rQ W σ H μ Ω ((evE ft a ρ Ω).bind asBool) _
  cases e : evE ft a ρ Ω with
  | bad => rw [e] at p; exact p
  | ex x Ω1 => rw [e] at p; exact p
  | ok x Ω1 =>
    rw [e] at p
    cases x with
    | bl t => exact fun b H' μ' ex q => by cases q; exact p (!t) H' μ' ex rfl
    | _ => exact False.elim p
theorem non_rep {x : D} {v : V} {K : Frg} {G : Hp} {μ : Mu} {n : Nat} (h : Rep K G μ n x v) : decide (v = V.non) = isNonD x := by
  cases x with
  | non => simp only [Rep] at h; subst h; rfl
  | hd k => simp only [Rep] at h; obtain ⟨_, rfl⟩ := h; rfl
  | bl _ => simp only [Rep] at h; subst h; rfl
  | int _ => simp only [Rep] at h; subst h; rfl
  | str _ => simp only [Rep] at h; subst h; rfl
  | _ => simp only [Rep] at h; obtain ⟨_, rest⟩ := h; first | (obtain ⟨rfl, _⟩ := rest; rfl) | (obtain ⟨_, rfl, _⟩ := rest; rfl) | (obtain ⟨_, _, rfl, _⟩ := rest; rfl)
theorem i_isn {σ : St} {H : Hp} {Q : VK} (h : TEv X.K W ft (.isn a) σ H Q) : tIsN (TEv X.K W ft a) σ H Q := by
  obtain ⟨μ, Ω, ρ, at_, p⟩ := h
  obtain ⟨μ0, Ω0, ρ0, a0, p0⟩ := one at_ p
  refine ⟨μ0, Ω0, ρ0, a0, p0.mono ?_⟩
  rintro v H1 ⟨μ1, Ω1, x, a1, r1, p1⟩
  rw [non_rep r1]
  exact Post.here (rel := rD X.K) p1 a1.wf (by simp only [rD, Rep])
theorem i_notn {σ : St} {H : Hp} {Q : VK} (h : TEv X.K W ft (.notn a) σ H Q) : tNotN (TEv X.K W ft a) σ H Q := by
  obtain ⟨μ, Ω, ρ, at_, p⟩ := h
  obtain ⟨μ0, Ω0, ρ0, a0, p0⟩ := one at_ p
  refine ⟨μ0, Ω0, ρ0, a0, p0.mono ?_⟩
  rintro v H1 ⟨μ1, Ω1, x, a1, r1, p1⟩
  rw [non_rep r1]
  exact Post.here (rel := rD X.K) p1 a1.wf (by simp only [rD, Rep])
theorem s_isn {k : Nat} {pos' : Pos} (ha : PE X l (TEv X.K W ft a)) : PE X (.Compare l [.Is] [.Constant .none k pos'] pos) (TEv X.K W ft (.isn a)) := (pe_cmp (pc_isN ha)).imp fun _ _ _ h => i_isn h
theorem s_notn {k : Nat} {pos' : Pos} (ha : PE X l (TEv X.K W ft a)) : PE X (.Compare l [.IsNot] [.Constant .none k pos'] pos) (TEv X.K W ft (.notn a)) := (pe_cmp (pc_notN ha)).imp fun _ _ _ h => i_notn h
theorem t_isn {k : Nat} {pos' : Pos} (ha : PE X l (TEv X.K W ft a)) : PT X (.Compare l [.Is] [.Constant .none k pos'] pos) (TTv X.K W ft (.isn a)) := (pt_cmp (pc_isN ha)).imp fun _ _ _ h => i_isn (tt_te h)
theorem t_notn {k : Nat} {pos' : Pos} (ha : PE X l (TEv X.K W ft a)) : PT X (.Compare l [.IsNot] [.Constant .none k pos'] pos) (TTv X.K W ft (.notn a)) := (pt_cmp (pc_notN ha)).imp fun _ _ _ h => i_notn (tt_te h)
end
end Rf
end
section
namespace Rf
open PySem L2
/-- the reading of any run that gives a value; the same as a test -/
def TG_ (K : Frg) (W : WX) (f : Env → Sto → R D) : TE := fun σ H Q => ∃ μ Ω ρ, At K σ H μ Ω ρ ∧ Post K (rD K) W σ H μ Ω (f ρ Ω) Q
def TB_ (K : Frg) (W : WX) (f : Env → Sto → R D) : TT := fun σ H Q => ∃ μ Ω ρ, At K σ H μ Ω ρ ∧ Post K rQ W σ H μ Ω ((f ρ Ω).bind asBool) Q
section
variable {X : Cx} {W : WX} {ft : FT} {pos : Pos} {l r m : Expr} {a b c : E} {es rest : List Expr} {el : EL}
/-! ### and, or -/
theorem s_and1 (ha : PE X l (TEv X.K W ft a)) : PE X (.BoolOp .And [l] pos) (TG_ X.K W (evAnd ft (.cons a .nil))) := (pe_one ha).imp fun _ _ _ h => h
theorem s_or1 (ha : PE X l (TEv X.K W ft a)) : PE X (.BoolOp .Or [l] pos) (TG_ X.K W (evOr ft (.cons a .nil))) := (pe_one ha).imp fun _ _ _ h => h
theorem s_andc (ha : PE X l (TEv X.K W ft a)) (hb : PE X (.BoolOp .And (m :: rest) pos) (TG_ X.K W (evAnd ft (.cons b el)))) : PE X (.BoolOp .And (l :: m :: rest) pos) (TG_ X.K W (evAnd ft (.cons a (.cons b el)))) := by
  refine (pe_and ha hb).imp fun σ H Q ⟨μ, Ω, ρ, at_, p⟩ => ?_
  have p : Post X.K (rD X.K) W σ H μ Ω ((evE ft a ρ Ω).bind fun x Ω => (asBool x Ω).bind fun t Ω => if t then evAnd ft (.cons b el) ρ Ω else .ok (.bl false) Ω) Q := p
  refine ⟨μ, Ω, ρ, at_, (Post.bind (rel := rD X.K) p).mono ?_⟩
  rintro v H1 ⟨μ1, Ω1, x, _, ex1, r1, p1⟩
  obtain ⟨t, rfl, p2⟩ := pbool p1
  simp only [rD, Rep] at r1
  refine ⟨t, r1, ?_⟩
  cases t with
  | true => exact iteT ⟨μ1, Ω1, ρ, at_.ext ex1, p2⟩
  | false => exact iteF (Post.here (rel := rD X.K) p2 ex1.wf (by simp only [rD, Rep]))
theorem s_orc (ha : PE X l (TEv X.K W ft a)) (hb : PE X (.BoolOp .Or (m :: rest) pos) (TG_ X.K W (evOr ft (.cons b el)))) : PE X (.BoolOp .Or (l :: m :: rest) pos) (TG_ X.K W (evOr ft (.cons a (.cons b el)))) := by
  refine (pe_or ha hb).imp fun σ H Q ⟨μ, Ω, ρ, at_, p⟩ => ?_
  have p : Post X.K (rD X.K) W σ H μ Ω ((evE ft a ρ Ω).bind fun x Ω => (asBool x Ω).bind fun t Ω => if t then .ok (.bl true) Ω else evOr ft (.cons b el) ρ Ω) Q := p
  refine ⟨μ, Ω, ρ, at_, (Post.bind (rel := rD X.K) p).mono ?_⟩
  rintro v H1 ⟨μ1, Ω1, x, _, ex1, r1, p1⟩
  obtain ⟨t, rfl, p2⟩ := pbool p1
  simp only [rD, Rep] at r1
  refine ⟨t, r1, ?_⟩
  cases t with
  | false => exact iteF ⟨μ1, Ω1, ρ, at_.ext ex1, p2⟩
  | true => exact iteT (Post.here (rel := rD X.K) p2 ex1.wf (by simp only [rD, Rep]))
theorem t_and1 (ha : PT X l (TTv X.K W ft a)) : PW X (.BoolOp .And [l] pos) (TB_ X.K W (evAnd ft (.cons a .nil))) := (pw_and1 ha).imp fun _ _ _ h => h
theorem t_or1 (ha : PT X l (TTv X.K W ft a)) : PW X (.BoolOp .Or [l] pos) (TB_ X.K W (evOr ft (.cons a .nil))) := (pw_or1 ha).imp fun _ _ _ h => h
theorem bindbind {α β γ : Type} (r : R α) (f : α → Sto → R β) (g : β → Sto → R γ) : (r.bind f).bind g = r.bind fun a Ω => (f a Ω).bind g := by cases r <;> rfl
theorem t_andc (ha : PT X l (TTv X.K W ft a)) (hb : PW X (.BoolOp .And (m :: rest) pos) (TB_ X.K W (evAnd ft (.cons b el)))) : PW X (.BoolOp .And (l :: m :: rest) pos) (TB_ X.K W (evAnd ft (.cons a (.cons b el)))) := by
  refine (pw_and ha hb).imp fun σ H Q ⟨μ, Ω, ρ, at_, p⟩ => ?_
  have p : Post X.K rQ W σ H μ Ω (((evE ft a ρ Ω).bind fun x Ω => (asBool x Ω).bind fun t Ω => if t then evAnd ft (.cons b el) ρ Ω else .ok (.bl false) Ω).bind asBool) Q := p
  rw [bindbind] at p
  have p : Post X.K rQ W σ H μ Ω ((evT ft a ρ Ω).bind fun t Ω => (if t then evAnd ft (.cons b el) ρ Ω else .ok (.bl false) Ω).bind asBool) Q := by
    unfold evT
    rw [bindbind]
    have e : (fun (x : D) Ω => ((asBool x Ω).bind fun t Ω => if t then evAnd ft (.cons b el) ρ Ω else .ok (.bl false) Ω).bind asBool) = fun x Ω => (asBool x Ω).bind fun t Ω => (if t then evAnd ft (.cons b el) ρ Ω else .ok (.bl false) Ω).bind asBool := by
      funext x Ω
      exact bindbind _ _ _
    rw [← e]
    exact p
  refine ⟨μ, Ω, ρ, at_, (Post.bind (rel := rQ) p).mono ?_⟩
  rintro t H1 ⟨μ1, Ω1, x, _, ex1, r1, p1⟩
  have r1 : x = t := r1
  subst r1
  cases x with
  | true => exact iteT ⟨μ1, Ω1, ρ, at_.ext ex1, p1⟩
  | false => exact iteF (Post.here (rel := rQ) p1 ex1.wf rfl)
theorem t_orc (ha : PT X l (TTv X.K W ft a)) (hb : PW X (.BoolOp .Or (m :: rest) pos) (TB_ X.K W (evOr ft (.cons b el)))) : PW X (.BoolOp .Or (l :: m :: rest) pos) (TB_ X.K W (evOr ft (.cons a (.cons b el)))) := by
  refine (pw_or ha hb).imp fun σ H Q ⟨μ, Ω, ρ, at_, p⟩ => ?_
  have p : Post X.K rQ W σ H μ Ω (((evE ft a ρ Ω).bind fun x Ω => (asBool x Ω).bind fun t Ω => if t then .ok (.bl true) Ω else evOr ft (.cons b el) ρ Ω).bind asBool) Q := p
  rw [bindbind] at p
  have p : Post X.K rQ W σ H μ Ω ((evT ft a ρ Ω).bind fun t Ω => (if t then .ok (.bl true) Ω else evOr ft (.cons b el) ρ Ω).bind asBool) Q := by
    unfold evT
    rw [bindbind]
    have e : (fun (x : D) Ω => ((asBool x Ω).bind fun t Ω => if t then .ok (.bl true) Ω else evOr ft (.cons b el) ρ Ω).bind asBool) = fun x Ω => (asBool x Ω).bind fun t Ω => (if t then .ok (.bl true) Ω else evOr ft (.cons b el) ρ Ω).bind asBool := by
      funext x Ω
      exact bindbind _ _ _
    rw [← e]
    exact p
  refine ⟨μ, Ω, ρ, at_, (Post.bind (rel := rQ) p).mono ?_⟩
  rintro t H1 ⟨μ1, Ω1, x, _, ex1, r1, p1⟩
  have r1 : x = t := r1
  subst r1
  cases x with
  | false => exact iteF ⟨μ1, Ω1, ρ, at_.ext ex1, p1⟩
  | true => exact iteT (Post.here (rel := rQ) p1 ex1.wf rfl)
/-! ### a if c else b -/
theorem s_ite {lc la lb : Expr} (hc : PT X lc (TTv X.K W ft c)) (ha : PE X la (TEv X.K W ft a)) (hb : PE X lb (TEv X.K W ft b)) : PE X (.IfExp lc la lb pos) (TEv X.K W ft (.ite c a b)) := by
  refine (pe_ifExp hc ha hb).imp fun σ H Q ⟨μ, Ω, ρ, at_, p⟩ => ?_
  have p : Post X.K (rD X.K) W σ H μ Ω ((evE ft c ρ Ω).bind fun x Ω => (asBool x Ω).bind fun t Ω => if t then evE ft a ρ Ω else evE ft b ρ Ω) Q := p
  rw [← bindbind] at p
  refine ⟨μ, Ω, ρ, at_, (Post.bind (rel := rQ) p).mono ?_⟩
  rintro t H1 ⟨μ1, Ω1, x, _, ex1, r1, p1⟩
  have r1 : x = t := r1
  subst r1
  cases x with
  | true => exact iteT ⟨μ1, Ω1, ρ, at_.ext ex1, p1⟩
  | false => exact iteF ⟨μ1, Ω1, ρ, at_.ext ex1, p1⟩
/-! ### a < b < c -/
theorem i_chn {o o' : CmpOp} {σ : St} {H : Hp} {Q : VK} (h : TEv X.K W ft (.chn o o' a b c) σ H Q) : tChain (rc X.K (cmpD o)) (rc X.K (cmpD o')) (TEv X.K W ft a) (TEv X.K W ft b) (TEv X.K W ft c) σ H Q := by
  obtain ⟨μ, Ω, ρ, at_, p⟩ := h
  obtain ⟨μ0, Ω0, ρ0, a0, p0⟩ := two at_ p
  refine ⟨μ0, Ω0, ρ0, a0, p0.mono ?_⟩
  rintro v H1 ⟨μ1, Ω1, ρ1, a1, p1⟩
  refine ⟨μ1, Ω1, ρ1, a1, p1.mono ?_⟩
  rintro u H2 ⟨μ2, Ω2, x, y, a2, r1, r2, p2⟩
  cases e : cmpD o (lk Ω2 x) (lk Ω2 y) with
  | none => rw [e] at p2; exact False.elim p2
  | some t =>
    rw [e] at p2
    refine ⟨μ2, Ω2, _, _, t, a2.wf, view a2.wf r1, view a2.wf r2, e, t, rfl, ?_⟩
    have p2 : Post X.K (rD X.K) W σ H2 μ2 Ω2 (if t then (evE ft c ρ Ω2).bind fun z Ω => (opt (cmpD o' (lk Ω y) (lk Ω z)) Ω).bind fun b Ω => .ok (.bl b) Ω else .ok (.bl false) Ω2) Q := p2
    cases t with
    | false => exact iteF (Post.here (rel := rD X.K) p2 a2.wf (by simp only [rD, Rep]))
    | true =>
      refine iteT ⟨μ2, Ω2, ρ, a2, (Post.bind (rel := rD X.K) p2).mono ?_⟩
      rintro z H4 ⟨μ4, Ω4, q, _, ex4, r4, p4⟩
      cases e4 : cmpD o' (lk Ω4 y) (lk Ω4 q) with
      | none => rw [e4] at p4; exact False.elim p4
      | some t4 =>
        rw [e4] at p4
        exact ⟨μ4, Ω4, _, _, t4, ex4.wf, view ex4.wf (Rep.tr ex4.tr _ _ r2), view ex4.wf r4, e4, Post.here (rel := rD X.K) p4 ex4.wf (by simp only [rD, Rep])⟩
theorem s_chn {o o' : CmpOp} {ll lm lr : Expr} (hu : X.A.units + 64 < cLine) (ha : PE X ll (TEv X.K W ft a)) (hb : PE X lm (TEv X.K W ft b)) (hc : PE X lr (TEv X.K W ft c)) (hm : lastMarks [o, o'] [lm, lr] = false) :
    PE X (.Compare ll [o, o'] [lm, lr] pos) (TEv X.K W ft (.chn o o' a b c)) := (pe_chain (cmp_ok hu o) (cmp_ok hu o') ha hb hc hm).imp fun _ _ _ h => i_chn h
theorem t_chn {o o' : CmpOp} {ll lm lr : Expr} (hu : X.A.units + 64 < cLine) (ha : PE X ll (TEv X.K W ft a)) (hb : PE X lm (TEv X.K W ft b)) (hc : PE X lr (TEv X.K W ft c)) (hm : lastMarks [o, o'] [lm, lr] = false) :
    PT X (.Compare ll [o, o'] [lm, lr] pos) (TTv X.K W ft (.chn o o' a b c)) := (pt_chain (cmp_ok hu o) (cmp_ok hu o') ha hb hc hm).imp fun _ _ _ h => i_chn (tt_te h)
/-! ### argument lists, displays -/
theorem s_nil : PA X [] (TAv X.K W ft .nil) := pa_nil.imp fun σ H Q ⟨μ, Ω, ρ, at_, p⟩ => Post.here (rel := rL X.K) p at_.wf Reps.nil
theorem s_cons (ha : PE X l (TEv X.K W ft a)) (hr : PA X es (TAv X.K W ft el)) (hs : starEach (l :: es) X.env = (false, eval l X.env) :: starEach es X.env) : PA X (l :: es) (TAv X.K W ft (.cons a el)) := by
  refine (pa_cons ha hr hs).imp fun σ H Q ⟨μ, Ω, ρ, at_, p⟩ => ?_
  refine ⟨μ, Ω, ρ, at_, (Post.bind (rel := rD X.K) (show Post X.K (rL X.K) W σ H μ Ω ((evE ft a ρ Ω).bind fun d Ω => (evL ft el ρ Ω).bind fun ds Ω => .ok (d :: ds) Ω) Q from p)).mono ?_⟩
  rintro v H1 ⟨μ1, Ω1, x, _, ex1, r1, p1⟩
  refine ⟨μ1, Ω1, ρ, at_.ext ex1, (Post.bind (rel := rL X.K) p1).mono ?_⟩
  rintro vs H2 ⟨μ2, Ω2, ds, _, ex2, r2, p2⟩
  exact Post.here (rel := rL X.K) p2 ex2.wf (Reps.cons (Rep.tr ex2.tr _ _ r1) r2)
theorem s_tup {x1 : Nat} (h : PA X es (TAv X.K W ft el)) : PE X (.Tuple es x1 pos) (TEv X.K W ft (.tup el)) := by
  refine (pe_tup h).imp fun σ H Q ⟨μ, Ω, ρ, at_, p⟩ => ?_
  obtain ⟨μ0, Ω0, ρ0, a0, p0⟩ := many at_ p
  refine ⟨μ0, Ω0, ρ0, a0, p0.mono ?_⟩
  rintro vs H1 ⟨μ1, Ω1, ds, a1, r1, p1⟩
  by_cases hz : ds.length ≤ big
  · rw [if_pos hz] at p1
    have hz' : vs.length ≤ sizeLine := by rw [r1.length, ← big_eq]; exact hz
    refine ⟨hz', fun q hq => ?_⟩
    obtain ⟨e, rp⟩ := res_tup a1.wf r1 hz' hq
    exact p1 _ _ _ e rp
  · rw [if_neg hz] at p1
    exact False.elim p1
theorem s_lst (h : PA X es (TAv X.K W ft el)) : PE X (.List es pos) (TEv X.K W ft (.lst el)) := by
  refine (pe_lst h).imp fun σ H Q ⟨μ, Ω, ρ, at_, p⟩ => ?_
  obtain ⟨μ0, Ω0, ρ0, a0, p0⟩ := many at_ p
  refine ⟨μ0, Ω0, ρ0, a0, p0.mono ?_⟩
  rintro vs H1 ⟨μ1, Ω1, ds, a1, r1, p1⟩
  by_cases hz : ds.length ≤ big
  · rw [if_pos hz] at p1
    have hz' : vs.length ≤ sizeLine := by rw [r1.length, ← big_eq]; exact hz
    refine ⟨hz', fun q hq => ?_⟩
    obtain ⟨e, rp⟩ := res_lst a1.wf r1 hz' hq
    exact p1 _ _ _ e rp
  · rw [if_neg hz] at p1
    exact False.elim p1
/-- a new mutable object -/
theorem push_want {K : Frg} {σ : St} {H : Hp} {μ : Mu} {Ω : Sto} {ρ : Env} {ob : Ob} {ho : HO} {Q : VK} (at_ : At K σ H μ Ω ρ) (hr : ORep K (Fz H μ Ω) μ Ω.length ob ho) (p : Post K (rD K) W σ H μ Ω (.ok (.hd Ω.length) (Ω ++ [ob])) Q) :
    ∀ q, H q = none → Q (.ref q) (upd H q ho) := fun q hq => by
  refine p _ _ _ (Ext.push at_.wf hq hr) ?_
  simp only [rD, Rep]
  exact ⟨by rw [List.length_append, List.length_singleton]; omega, by rw [pushM_eq]⟩
theorem s_newl (h : PA X es (TAv X.K W ft el)) : PE X (.List es pos) (TEv X.K W ft (.newl el)) := by
  refine (pe_lst h).imp fun σ H Q ⟨μ, Ω, ρ, at_, p⟩ => ?_
  obtain ⟨μ0, Ω0, ρ0, a0, p0⟩ := many at_ p
  refine ⟨μ0, Ω0, ρ0, a0, p0.mono ?_⟩
  rintro vs H1 ⟨μ1, Ω1, ds, a1, r1, p1⟩
  by_cases hz : ds.length ≤ big
  · rw [if_pos hz] at p1
    have hz' : vs.length ≤ sizeLine := by rw [r1.length, ← big_eq]; exact hz
    exact ⟨hz', push_want (ob := .lst ds) a1 ⟨vs, rfl, r1, hz'⟩ p1⟩
  · rw [if_neg hz] at p1
    exact False.elim p1
theorem s_newk : PE X (.Dict [] [] pos) (TEv X.K W ft .newk) := pe_dnewK.imp fun σ H Q ⟨μ, Ω, ρ, at_, p⟩ => push_want (ob := .dk []) at_ ⟨[], rfl, by simp only [RepK]⟩ p
theorem s_newt : PE X (.Dict [] [] pos) (TEv X.K W ft .newt) := pe_dnewT.imp fun σ H Q ⟨μ, Ω, ρ, at_, p⟩ => push_want (ob := .dt []) at_ ⟨[], rfl, by simp only [RepT]⟩ p
/-! ### what is no longer changed -/
theorem s_frz (ha : PE X l (TEv X.K W ft a)) : PE X l (TEv X.K W ft (.frz a)) := by
  refine (PE.or ha (PE.lock ha)).imp fun σ H Q ⟨μ, Ω, ρ, at_, p⟩ => ?_
  have p : Post X.K (rD X.K) W σ H μ Ω ((evE ft a ρ Ω).bind fun x Ω => match x with
    | .hd k => match (Ω[k]? : Option Ob) with
      | some (.lst xs) => .ok (.lst xs) (Ω.set k .dead)
      | some (.dk kvs) => .ok (.dk kvs) (Ω.set k .dead)
      | some (.dt kvs) => .ok (.dt kvs) (Ω.set k .dead)
      | _ => .bad
    | _ => .bad) Q := p
  cases e : evE ft a ρ Ω with
  | bad => rw [e] at p; exact False.elim p
  | ex x Ω1 => rw [e] at p; exact .inl ⟨μ, Ω, ρ, at_, by rw [e]; exact p⟩
  | ok x Ω1 =>
    rw [e] at p
    cases x with
    | hd k =>
      cases e1 : Ω1[k]? with
      | none => simp only [R.bind, e1] at p; exact False.elim p
      | some o =>
        have al : ∀ {o : Ob}, Ω1[k]? = some o → o ≠ .dead → Alive Ω1 k := fun h1 h2 => ⟨_, h1, h2⟩
        cases o with
        | lst xs =>
          simp only [R.bind, e1] at p
          refine .inl ⟨μ, Ω, ρ, at_, ?_⟩
          rw [e]
          intro v H1 μ1 ex1 r1
          simp only [rD, Rep] at r1
          obtain ⟨_, rfl⟩ := r1
          obtain ⟨ho, h1, vs, rfl, rr, z⟩ := ex1.wf.ob k _ e1 (by intro z; cases z)
          have ha := al e1 (by intro z; cases z)
          have ex2 := Ext.freeze ex1.wf ha
          refine p _ _ _ (ex1.trans ex2) ?_
          simp only [rD, Rep]
          exact ⟨μ1 k, vs, rfl, Reps.tr ex2.tr _ _ rr, z, Fz.freeze ex1.wf ha h1⟩
        | dk xs =>
          simp only [R.bind, e1] at p
          refine .inr ⟨μ, Ω, ρ, at_, ?_⟩
          rw [e]
          intro v H1 μ1 ex1 r1
          simp only [rD, Rep] at r1
          obtain ⟨_, rfl⟩ := r1
          obtain ⟨ho, h1, vs, rfl, rr⟩ := ex1.wf.ob k _ e1 (by intro z; cases z)
          have ha := al e1 (by intro z; cases z)
          refine ⟨μ1 k, _, rfl, h1, trivial, fun od => ?_⟩
          have ex2 := Ext.retire ex1.wf ha (.frz od (.dK vs))
          refine p _ _ _ (ex1.trans ex2) ?_
          simp only [rD, Rep]
          exact ⟨μ1 k, vs, od, rfl, RepK.tr ex2.tr _ _ rr, Fz.retire ex1.wf ha _⟩
        | dt xs =>
          simp only [R.bind, e1] at p
          refine .inr ⟨μ, Ω, ρ, at_, ?_⟩
          rw [e]
          intro v H1 μ1 ex1 r1
          simp only [rD, Rep] at r1
          obtain ⟨_, rfl⟩ := r1
          obtain ⟨ho, h1, vs, rfl, rr⟩ := ex1.wf.ob k _ e1 (by intro z; cases z)
          have ha := al e1 (by intro z; cases z)
          refine ⟨μ1 k, _, rfl, h1, trivial, fun od => ?_⟩
          have ex2 := Ext.retire ex1.wf ha (.frz od (.dT vs))
          refine p _ _ _ (ex1.trans ex2) ?_
          simp only [rD, Rep]
          exact ⟨μ1 k, vs, od, rfl, RepT.tr ex2.tr _ _ rr, Fz.retire ex1.wf ha _⟩
        | _ => simp only [R.bind, e1] at p; exact False.elim p
    | _ => exact False.elim p
/-! ### items, slices, fields -/
theorem idx_seq {x y : D} {xs : List D} {d : D} (e : idxD x y = some d) (hs : seqD x = some xs) : ∃ i, y = .int i ∧ atI xs i = some d := by
  cases x with
  | lst ys => cases hs; cases y <;> first | (exact ⟨_, rfl, e⟩) | cases e
  | tup ys => cases hs; cases y <;> first | (exact ⟨_, rfl, e⟩) | cases e
  | e0 => cases hs; cases y <;> first | (exact ⟨_, rfl, e⟩) | cases e
  | scr ys => cases hs; cases y <;> first | (exact ⟨_, rfl, e⟩) | cases e
  | _ => cases hs
theorem atI_rep {K : Frg} {G : Hp} {μ : Mu} {n : Nat} {xs : List D} {vs : List V} {i : Int} {d : D} (h : Reps K G μ n xs vs) (e : atI xs i = some d) : ∃ v, atI vs i = some v ∧ Rep K G μ n d v := by
  unfold atI at e ⊢
  rw [h.length]
  cases e1 : ixN xs.length i with
  | none => rw [e1] at e; cases e
  | some j =>
    rw [e1] at e
    exact h.get e
theorem view_int {K : Frg} {H : Hp} {μ : Mu} {Ω : Sto} {i : Int} {v : V} (h : Rep K (Fz H μ Ω) μ Ω.length (.int i) v) : v = .int i := by simpa only [Rep] using h
theorem ix_dict (hu : X.A.units + 1 < cLine) : IxR X (fun x y H Q => ∃ p v, x = .ref p ∧ DGet H p y (some v) ∧ Q v H) := by
  intro value slice pins s σ H x y v u Q I rx ry h hs
  obtain ⟨p, z, rfl, g, q⟩ := h
  cases rx
  exact PyProof.Rows.tail_any (dict_typeIs I g) PySem.F.slot_dict_getitem.lookup (d_getItem hu I g ry fun w' s3 I3 rw' => ⟨z, H, I3, rw', q⟩) hs
theorem i_idx {K : Frg} {H : Hp} {μ : Mu} {Ω : Sto} {x y : D} {d : D} {v u : V} {Q : VK} (w : Wf K H μ Ω) (vx : View K H μ Ω x v) (ry : Rep K (Fz H μ Ω) μ Ω.length y u) (e : idxD x y = some d) (k : Want K H μ Ω d Q) :
    rIx K v u H Q ∨ ∃ p z, v = .ref p ∧ DGet H p u (some z) ∧ Q z H := by
  have vy := view0 ry
  have seq : ∀ xs, seqD x = some xs → rIx K v u H Q := fun xs hs => by
    obtain ⟨i, rfl, e2⟩ := idx_seq e hs
    obtain ⟨p, vs, rfl, r, z, c⟩ := view_seq vx hs
    obtain ⟨t, e3, rt⟩ := atI_rep r e2
    have hu := view_int ry
    rcases c with c | c
    · exact .inl ⟨p, vs, i, t, rfl, hu, c, e3, k.now w rt⟩
    · exact .inr (.inl ⟨p, vs, i, t, rfl, hu, c, e3, k.now w rt⟩)
  cases x with
  | lst xs => exact .inl (seq xs rfl)
  | tup xs => exact .inl (seq xs rfl)
  | e0 => exact .inl (seq [] rfl)
  | scr xs => exact .inl (seq _ rfl)
  | str t =>
    cases y with
    | int i =>
      by_cases hz : t.length ≤ big
      · have e : (if t.length ≤ big then (atI t.cps.toList i).map fun c => D.str ⟨#[c]⟩ else none) = some d := e
        rw [if_pos hz] at e
        obtain ⟨c, e1, rfl⟩ := Option.map_eq_some_iff.mp e
        simp only [View] at vx
        exact .inl (.inr (.inr ⟨t, i, c, vx, view_int ry, big_eq ▸ hz, e1, k.str w⟩))
      · have e : (if t.length ≤ big then (atI t.cps.toList i).map fun c => D.str ⟨#[c]⟩ else none) = some d := e
        rw [if_neg hz] at e
        cases e
    | _ => cases e
  | dk kvs =>
    have e : (match keyD y with | some k => getK kvs k | none => none) = some d := e
    cases ek : keyD y with
    | none => rw [ek] at e; cases e
    | some q =>
      rw [ek] at e
      obtain ⟨p, ws, rfl, r, g⟩ := dget_k vy vx ek
      obtain ⟨t, e1, rt⟩ := (getK_rep (k := q) r).1 d e
      rw [e1] at g
      exact .inr ⟨p, t, rfl, g, k.now w rt⟩
  | dt kvs =>
    have e : (match tkeyD y with | some k => getK kvs k | none => none) = some d := e
    cases ek : tkeyD y with
    | none => rw [ek] at e; cases e
    | some q =>
      rw [ek] at e
      obtain ⟨p, ws, rfl, r, g⟩ := dget_t vy vx ek
      obtain ⟨t, e1, rt⟩ := (getT_rep (k := q) r).1 d e
      rw [e1] at g
      exact .inr ⟨p, t, rfl, g, k.now w rt⟩
  | _ => cases y <;> cases e
theorem s_idx (hu : X.A.units + 1 < cLine) (ha : PE X l (TEv X.K W ft a)) (hb : PE X r (TEv X.K W ft b)) (hs : PlainIx r) : PE X (.Subscript l r pos) (TEv X.K W ft (.idx a b)) := by
  refine (pe_ix (ix_seq.or (ix_dict hu)) ha hb hs).imp fun σ H Q ⟨μ, Ω, ρ, at_, p⟩ => ?_
  obtain ⟨μ0, Ω0, ρ0, a0, p0⟩ := two at_ p
  refine ⟨μ0, Ω0, ρ0, a0, p0.mono ?_⟩
  rintro v H1 ⟨μ1, Ω1, ρ1, a1, p1⟩
  refine ⟨μ1, Ω1, ρ1, a1, p1.mono ?_⟩
  rintro u H2 ⟨μ2, Ω2, x, y, a2, r1, r2, p2⟩
  obtain ⟨d, e, k⟩ := p2.optD
  exact i_idx a2.wf (view a2.wf r1) r2 e k
/-! ### slices -/
theorem s_onone : PO X none (TOv X.K W ft .none) := ⟨fun pins s σ H Q I ⟨μ, Ω, ρ, at_, p⟩ => po_none.run pins s σ H Q I (Post.here (rel := rQ) p at_.wf rfl)⟩
theorem s_osome (ha : PE X l (TEv X.K W ft a)) : PO X (some l) (TOv X.K W ft (.some a)) := by
  refine ⟨fun pins s σ H Q I ⟨μ, Ω, ρ, at_, p⟩ => (po_some ha).run pins s σ H Q I ?_⟩
  refine ⟨μ, Ω, ρ, at_, (Post.bind (rel := rD X.K) (show Post X.K rQ W σ H μ Ω ((evE ft a ρ Ω).bind fun d Ω => match d with | .int i => .ok (some i) Ω | _ => .bad) Q from p)).mono ?_⟩
  rintro v H1 ⟨μ1, Ω1, x, _, ex1, r1, p1⟩
  cases x with
  | int i => exact ⟨i, view_int r1, Post.here (rel := rQ) p1 ex1.wf rfl⟩
  | _ => exact False.elim p1
theorem Reps.cut {K : Frg} {G : Hp} {μ : Mu} {n : Nat} {xs : List D} {vs : List V} (h : Reps K G μ n xs vs) (lo hi : Option Int) : Reps K G μ n (cutD xs lo hi) (cutV vs lo hi) := by
  unfold cutD cutV
  rw [h.length]
  exact (h.drop _).take _
theorem s_slc {lo hi : EO} {elo ehi : Option Expr} {p2 : Pos} (ha : PE X l (TEv X.K W ft a)) (hl : PO X elo (TOv X.K W ft lo)) (hh : PO X ehi (TOv X.K W ft hi)) : PE X (.Subscript l (.Slice elo ehi none p2) pos) (TEv X.K W ft (.slc a lo hi)) := by
  refine (pe_slice (sl_list.or sl_tupA) ha hl hh).imp fun σ H Q ⟨μ, Ω, ρ, at_, p⟩ => ?_
  refine ⟨μ, Ω, ρ, at_, (Post.bind (rel := rD X.K) (show Post X.K (rD X.K) W σ H μ Ω ((evE ft a ρ Ω).bind fun x Ω => (evO ft lo ρ Ω).bind fun l Ω => (evO ft hi ρ Ω).bind fun h Ω => opt (slcD (lk Ω x) l h) Ω) Q from p)).mono ?_⟩
  rintro v H1 ⟨μ1, Ω1, x, _, ex1, r1, p1⟩
  refine ⟨μ1, Ω1, ρ, at_.ext ex1, (Post.bind (rel := rQ) p1).mono ?_⟩
  rintro i H2 ⟨μ2, Ω2, i', _, ex2, r2, p2⟩
  have r2 : i' = i := r2
  subst r2
  refine ⟨μ2, Ω2, ρ, (at_.ext ex1).ext ex2, (Post.bind (rel := rQ) p2).mono ?_⟩
  rintro j H3 ⟨μ3, Ω3, j', _, ex3, r3, p3⟩
  have r3 : j' = j := r3
  subst r3
  obtain ⟨d, e, k⟩ := p3.optD
  have vx := view ex3.wf (Rep.tr (ex2.trans ex3).tr _ _ r1)
  generalize lk Ω3 x = x' at vx e
  cases x' with
  | lst xs =>
    cases e
    obtain ⟨q, vs, e1, rr, z, c⟩ := vx
    exact .inl ⟨q, vs, e1, .inl (.inl c), k.lst ex3.wf (rr.cut _ _) (Nat.le_trans (cutV_length _ _ _) z)⟩
  | tup xs =>
    cases e
    obtain ⟨q, vs, e1, rr, z, c, _, rp⟩ := vx
    refine .inr ⟨q, vs, e1, c, fun hw => ?_, fun hw => k.tup ex3.wf (rr.cut _ _) (Nat.le_trans (cutV_length _ _ _) z)⟩
    have ec : cutD xs i' j' = xs := by
      unfold cutD
      rw [rr.length] at hw
      rw [hw.1, hw.2, List.drop_zero, Nat.sub_zero, List.take_length]
    rw [ec] at k
    rw [← e1]
    exact k.now ex3.wf rp
  | _ => cases e
/-! ### fields -/
theorem lookup_rep {K : Frg} {G : Hp} {μ : Mu} {n : Nat} {f : Str} : ∀ {fs : List (Str × D)} {ws : List (Str × V)} {d : D}, RepS K G μ n fs ws → fs.lookup f = some d → ∃ v, ws.lookup f = some v ∧ Rep K G μ n d v
  | [], ws, d, h, e => by cases e
  | (g, x) :: r, ws, d, h, e => by
    simp only [RepS] at h
    obtain ⟨v, w', rfl, rv, rr⟩ := h
    have e : (match f == g with | true => some x | false => r.lookup f) = some d := e
    show ∃ u, (match f == g with | true => some v | false => w'.lookup f) = some u ∧ Rep K G μ n d u
    cases q : (f == g) with
    | true =>
      rw [q] at e
      cases e
      exact ⟨v, rfl, rv⟩
    | false =>
      rw [q] at e
      exact lookup_rep rr e
theorem lookup_none {K : Frg} {G : Hp} {μ : Mu} {n : Nat} {f : Str} : ∀ {fs : List (Str × D)} {ws : List (Str × V)}, RepS K G μ n fs ws → fs.lookup f = none → ws.lookup f = none
  | [], ws, h, e => by simp only [RepS] at h; rw [h]; rfl
  | (g, x) :: r, ws, h, e => by
    simp only [RepS] at h
    obtain ⟨v, w', rfl, rv, rr⟩ := h
    have e : (match f == g with | true => some x | false => r.lookup f) = none := e
    show (match f == g with | true => some v | false => w'.lookup f) = none
    cases q : (f == g) with
    | true => rw [q] at e; cases e
    | false =>
      rw [q] at e
      exact lookup_none rr e
theorem s_fld {f : Str} (ha : PE X l (TEv X.K W ft a)) (hb : attributeBase l f X.env (eval l X.env) = eval l X.env) (hc : ∀ c, (ft.flds c).contains f = true → Cls X.K (He.ga X.K c) ∧ NoAttr X.K (He.ga X.K c) f) :
    PE X (.Attribute l f pos) (TEv X.K W ft (.fld a f)) := by
  refine (pe_fld ha hb).imp fun σ H Q ⟨μ, Ω, ρ, at_, p⟩ => ?_
  obtain ⟨μ0, Ω0, ρ0, a0, p0⟩ := one at_ p
  refine ⟨μ0, Ω0, ρ0, a0, p0.mono ?_⟩
  rintro v H1 ⟨μ1, Ω1, x, a1, r1, p1⟩
  obtain ⟨d, e, k⟩ := p1.optD
  have vx := view a1.wf r1
  generalize lk Ω1 x = x' at vx e
  cases x' with
  | ins c fs =>
    obtain ⟨q, dx, ws, rfl, rr, hq⟩ := vx
    have e : (if (ft.flds c).contains f = true then fs.lookup f else none) = some d := e
    by_cases hf : (ft.flds c).contains f = true
    · rw [if_pos hf] at e
      obtain ⟨cl, na⟩ := hc c hf
      obtain ⟨u, e1, ru⟩ := lookup_rep rr e
      exact ⟨q, _, dx, ws, u, rfl, hq, cl, na, e1, k.now a1.wf ru⟩
    · rw [if_neg hf] at e
      cases e
  | _ => cases e
end
end Rf
end
section
namespace Rf
open PySem L2
section
variable {X : Cx} {W : WX} {ft : FT} {pos p : Pos} {l r m : Expr} {a b c : E} {es rest : List Expr} {el : EL}
/-! ### built-ins -/
theorem i_bi {f : Bi} {σ : St} {H : Hp} {Q : VK} (h : TEv X.K W ft (.bi f el) σ H Q) : tCB (rb X.K (biD f)) (TAv X.K W ft el) σ H Q := by
  obtain ⟨μ, Ω, ρ, at_, p⟩ := h
  obtain ⟨μ0, Ω0, ρ0, a0, p0⟩ := many at_ p
  refine ⟨μ0, Ω0, ρ0, a0, p0.mono ?_⟩
  rintro vs H1 ⟨μ1, Ω1, ds, a1, r1, p1⟩
  obtain ⟨d, e, k⟩ := p1.optD
  exact ⟨μ1, Ω1, _, d, a1.wf, views a1.wf r1, e, k⟩
/-- the built-ins that are proved so far -/
def Bi.ok : Bi → Bool
  | .sorted => false
  | .mn => false
  | _ => true
theorem s_bi (f : Bi) (hf : f.ok = true) (hc : X.calm = true) (hu : X.A.units + 64 < cLine) (hg : Gl X f.name) (hm : X.mg f.name = none) (ha : PA X (l :: es) (TAv X.K W ft el)) (he : starEach (l :: es) X.env = (false, eval l X.env) :: starEach es X.env) (hpl : (backTo pos (starEach es X.env)).any (·.1) = false) :
    PE X (.Call (.Name f.name p) (l :: es) [] pos) (TEv X.K W ft (.bi f el)) := by
  cases f with
  | len => exact (pe_callB len_ok hg hm (by decide +kernel) ha (by decide +kernel) (by decide +kernel) he hpl).imp fun _ _ _ h => i_bi h
  | abs => exact (pe_callB abs_ok hg hm (by decide +kernel) ha (by decide +kernel) (by decide +kernel) he hpl).imp fun _ _ _ h => i_bi h
  | all => exact (pe_callB (all_ok hc) hg hm (by decide +kernel) ha (by decide +kernel) (by decide +kernel) he hpl).imp fun _ _ _ h => i_bi h
  | any => exact (pe_callB (any_ok hc) hg hm (by decide +kernel) ha (by decide +kernel) (by decide +kernel) he hpl).imp fun _ _ _ h => i_bi h
  | int => exact (pe_callTy int_ok hg hm (by decide +kernel) ha (by decide +kernel) (by decide +kernel) he hpl).imp fun _ _ _ h => i_bi h
  | str => exact (pe_callTy str_ok hg hm (by decide +kernel) ha (by decide +kernel) (by decide +kernel) he hpl).imp fun _ _ _ h => i_bi h
  | list => exact (pe_callTy (list_ok hc) hg hm (by decide +kernel) ha (by decide +kernel) (by decide +kernel) he hpl).imp fun _ _ _ h => i_bi h
  | tuple => exact (pe_callTy tuple_ok hg hm (by decide +kernel) ha (by decide +kernel) (by decide +kernel) he hpl).imp fun _ _ _ h => i_bi h
  | dict => exact (pe_callTy (dict_ok hc hu) hg hm (by decide +kernel) ha (by decide +kernel) (by decide +kernel) he hpl).imp fun _ _ _ h => i_bi h
  | sum => exact (pe_callB (sum_ok hc) hg hm (by decide +kernel) ha (by decide +kernel) (by decide +kernel) he hpl).imp fun _ _ _ h => i_bi h
  | sorted => cases hf
  | mn => cases hf
/-! ### own functions -/
/-- a def's promise: what the run g says -/
def spD (K : Frg) (g : List D → Sto → R D) : Sp := fun vs H Q E => ∃ μ Ω ds, Wf K H μ Ω ∧ Reps K (Fz H μ Ω) μ Ω.length ds vs ∧ Post K (rD K) (fun c d _ H' => E c d H') [] H μ Ω (g ds Ω) Q
/-- the defaults from place j on, as values -/
def Dfl (K : Frg) (fd : FuncData) (ps : List Str) (dfl : List D) (j : Nat) : Prop := ∃ dvs ds, (∀ G μ n, Reps K G μ n (dfl.drop j) dvs) ∧ Vals dvs ds ∧ Binds K fd ps ds
structure FnK (X : Cx) (dfl : List D) (ad : Addr) (g : List D → Sto → R D) : Prop where
  ex : ∃ k fd ps, FnOk X.prog X.w X.K X.mg X.base (L2.CX X.prog X.w) k ad fd ps (spD X.K g) ∧ Room (k + 1) X.A ∧ ∀ j, j ≤ dfl.length → Dfl X.K fd ps dfl j
  kp : PySem.W.keepIn X.K (.ref ad) = true
theorem Post.asE {K : Frg} {σ : St} {H : Hp} {μ : Mu} {Ω : Sto} {r : R D} {Q : VK} (p : Post K (rD K) W σ H μ Ω r Q) : Post K (rD K) (fun c d _ H' => WE W σ c d H') [] H μ Ω r Q := by
  cases r with
  | ok a Ω' => exact p
  | ex x Ω' => exact p
  | bad => exact p
/-- the promise is asked of the arguments and the defaults -/
theorem sp_of {K : Frg} {σ : St} {H : Hp} {μ : Mu} {Ω : Sto} {ds df : List D} {vs dvs : List V} {g : List D → Sto → R D} {Q : VK} (w : Wf K H μ Ω) (r : Reps K (Fz H μ Ω) μ Ω.length ds vs) (rd : ∀ G μ n, Reps K G μ n df dvs)
    (p : Post K (rD K) W σ H μ Ω (g (ds ++ df) Ω) Q) : spD K g (vs ++ dvs) H Q (WE W σ) := ⟨μ, Ω, ds ++ df, w, r.append (rd _ _ _), p.asE⟩
theorem s_call {f : Str} {j : Nat} {ad : Addr} {g : List D → Sto → R D} (tk : Takes X W) (hf : ft.fn f = some g) (F : FnK X (ft.dfl f) ad g) (hj : j ≤ (ft.dfl f).length) (hg : Gl X f) (hm : X.mg f = some (.ref ad)) (hdb : (f == ("__debug__" : Str)) = false)
    (ha : PA X (l :: es) (TAv X.K W ft el)) (he : starEach (l :: es) X.env = (false, eval l X.env) :: starEach es X.env) (hpl : (backTo pos (starEach es X.env)).any (·.1) = false) :
    PE X (.Call (.Name f p) (l :: es) [] pos) (TEv X.K W ft (.call f el j)) := by
  obtain ⟨k, fd, ps, F0, hr, hd⟩ := F.ex
  obtain ⟨dvs, dd, rd, vd, bd⟩ := hd j hj
  refine (pe_callSD F0 (hr.mono (Nat.le_succ _)) hg hm F.kp bd vd (fun σ => passAt tk σ) ha hdb he hpl).imp fun σ H Q ⟨μ, Ω, ρ, at_, p⟩ => ?_
  have p : Post X.K (rD X.K) W σ H μ Ω ((evL ft el ρ Ω).bind fun ds Ω => match ft.fn f with | some g => g (ds ++ (ft.dfl f).drop j) Ω | none => .bad) Q := p
  rw [hf] at p
  obtain ⟨μ0, Ω0, ρ0, a0, p0⟩ := many at_ p
  refine ⟨μ0, Ω0, ρ0, a0, p0.mono ?_⟩
  rintro vs H1 ⟨μ1, Ω1, ds, a1, r1, p1⟩
  exact sp_of a1.wf r1 rd p1
/-- f() -/
theorem pe_callS0 {CX : CXT} {k : Nat} {f : Addr} {fd : FuncData} {ps : List Str} {sp : Sp} {dvs : List V} {ds : List Value} {E : St → XK} {x : Str} (F : FnOk X.prog X.w X.K X.mg X.base CX k f fd ps sp) (hr : Room k X.A) (hg : Gl X x) (hm : X.mg x = some (.ref f)) (hk : PySem.W.keepIn X.K (.ref f) = true)
    (hb : Binds X.K fd ps ds) (hd : Vals dvs ds) (hx : ∀ σ, PassesAt CX X σ (E σ)) (hdb : (x == ("__debug__" : Str)) = false) : PE X (.Call (.Name x p) [] [] pos) (tCallSD sp dvs E tNil) :=
  ⟨fun pins s σ H Q I h => wpAny_Call_Name_kw (ld_glob I hg hm (PySem.W.callWith_K0 I.kIn hk (run_fnSD (us := []) F hr hb hd (hx σ) I .nil h)) hdb)⟩
theorem s_call0 {f : Str} {j : Nat} {ad : Addr} {g : List D → Sto → R D} (tk : Takes X W) (hf : ft.fn f = some g) (F : FnK X (ft.dfl f) ad g) (hj : j ≤ (ft.dfl f).length) (hg : Gl X f) (hm : X.mg f = some (.ref ad)) (hdb : (f == ("__debug__" : Str)) = false) :
    PE X (.Call (.Name f p) [] [] pos) (TEv X.K W ft (.call f .nil j)) := by
  obtain ⟨k, fd, ps, F0, hr, hd⟩ := F.ex
  obtain ⟨dvs, dd, rd, vd, bd⟩ := hd j hj
  refine (pe_callS0 F0 (hr.mono (Nat.le_succ _)) hg hm F.kp bd vd (fun σ => passAt tk σ) hdb).imp fun σ H Q ⟨μ, Ω, ρ, at_, p⟩ => ?_
  have p : Post X.K (rD X.K) W σ H μ Ω ((evL ft .nil ρ Ω).bind fun ds Ω => match ft.fn f with | some g => g (ds ++ (ft.dfl f).drop j) Ω | none => .bad) Q := p
  rw [hf] at p
  exact sp_of (ds := []) at_.wf Reps.nil rd p
/-! ### methods of own classes -/
def tMethS (C : Addr) (m : Str) (sp : Sp) (dvs : List V) (E : St → XK) (ta : TE) (t : TA) : TE := fun σ H Q => ta σ H fun x H1 => ∃ q dx fs, x = .ref q ∧ H1 q = some (.ins C dx fs) ∧ fs.lookup m = none ∧
  t σ H1 fun vs H2 => sp (x :: (vs ++ dvs)) H2 Q (E σ)
theorem pe_methE {CX : CXT} {k : Nat} {f C : Addr} {fd : FuncData} {ps : List Str} {sp : Sp} {dvs : List V} {ds : List Value} {E : St → XK} {o e : Expr} {mm : Str} {ta : TE} {t : TA} {apos : Pos} (ho : PE X o ta) (c : Cls X.K C) (hm : Meth X.K C mm f)
    (F : FnOk X.prog X.w X.K X.mg X.base CX k f fd ps sp) (hr : Room k X.A) (hb : Binds X.K fd ps ds) (hd : Vals dvs ds) (hx : ∀ σ, PassesAt CX X σ (E σ)) (ha : PA X (e :: es) t)
    (hst : starEach (e :: es) X.env = (false, eval e X.env) :: starEach es X.env) (hpl : (backTo pos (starEach es X.env)).any (·.1) = false) {pl : Sem Bool}
    (ht : eval (.Call (.Attribute o mm apos) (e :: es) [] pos) X.env = (do
      let ov ← eval o X.env
      standAt apos.atName
      let q ← holding [ov] (getMethod ov mm pl)
      callWith pos q.1 q.2 (backTo pos (starEach (e :: es) X.env)) (backToKw pos (keywordEach [] X.env)))) :
    PE X (.Call (.Attribute o mm apos) (e :: es) [] pos) (tMethS C mm sp dvs E ta t) := by
  refine ⟨fun pins s σ H Q I h => PySem.W.methodCall_KW (pl := pl) (thn (ho.run pins s σ H _ I h) fun u s1 ⟨x, H1, I1, rx, q, dx, fs, ex, eq, l, k1⟩ => ?_) ht⟩
  subst ex
  obtain rfl : u = Value.ref q := rx
  refine getmeth_ok I1 eq c hm l (PySem.W.callWith_K (first := [.ref q]) (h₀ := X.base) I.ok.mod.kin hm.kp (thn (ha.run pos pins s1 σ H1 _ I1 k1) fun us s2 ⟨vs, H2, I2, rr, k2⟩ => ⟨I2.kIn, ?_⟩) hst hpl)
  exact run_fnSD (us := .ref q :: us) (vs := .ref q :: vs) F hr hb hd (hx σ) I2 (.cons rfl rr) k2
theorem pe_methE0 {CX : CXT} {k : Nat} {f C : Addr} {fd : FuncData} {ps : List Str} {sp : Sp} {dvs : List V} {ds : List Value} {E : St → XK} {o : Expr} {mm : Str} {ta : TE} {apos : Pos} (ho : PE X o ta) (c : Cls X.K C) (hm : Meth X.K C mm f)
    (F : FnOk X.prog X.w X.K X.mg X.base CX k f fd ps sp) (hr : Room k X.A) (hb : Binds X.K fd ps ds) (hd : Vals dvs ds) (hx : ∀ σ, PassesAt CX X σ (E σ)) {pl : Sem Bool}
    (ht : eval (.Call (.Attribute o mm apos) [] [] pos) X.env = (do
      let ov ← eval o X.env
      standAt apos.atName
      let q ← holding [ov] (getMethod ov mm pl)
      callWith pos q.1 q.2 (backTo pos (starEach [] X.env)) (backToKw pos (keywordEach [] X.env)))) :
    PE X (.Call (.Attribute o mm apos) [] [] pos) (tMethS C mm sp dvs E ta tNil) := by
  refine ⟨fun pins s σ H Q I h => PySem.W.methodCall_KW (pl := pl) (thn (ho.run pins s σ H _ I h) fun u s1 ⟨x, H1, I1, rx, q, dx, fs, ex, eq, l, k1⟩ => ?_) ht⟩
  subst ex
  obtain rfl : u = Value.ref q := rx
  exact getmeth_ok I1 eq c hm l (PySem.W.callWith_K0 (first := [.ref q]) I1.kIn hm.kp (run_fnSD (us := [.ref q]) (vs := [.ref q]) F hr hb hd (hx σ) I1 (.cons rfl .nil) k1))
end
end Rf
end
section
namespace Rf
open PySem L2
/-! ### plain arguments -/
def plainE : Expr → Bool
  | .Starred _ _ => false
  | _ => true
theorem star_cons {e : Expr} {es : List Expr} {env : PySem.Env} (h : plainE e = true) : starEach (e :: es) env = (false, eval e env) :: starEach es env := by
  cases e <;> first | rfl | cases h
theorem back_any {pos : Pos} {env : PySem.Env} : ∀ {es : List Expr}, es.all plainE = true → (backTo pos (starEach es env)).any (·.1) = false
  | [], _ => rfl
  | e :: es, h => by
    rw [List.all_cons, Bool.and_eq_true] at h
    rw [star_cons h.1]
    show (false || (backTo pos (starEach es env)).any (·.1)) = false
    rw [back_any h.2]
    rfl
theorem back_all {pos : Pos} {env : PySem.Env} : ∀ {es : List Expr}, es.all plainE = true → (backTo pos (starEach es env)).all (fun x => !x.1) = true
  | [], _ => rfl
  | e :: es, h => by
    rw [List.all_cons, Bool.and_eq_true] at h
    rw [star_cons h.1]
    show (true && (backTo pos (starEach es env)).all (fun x => !x.1)) = true
    rw [back_all h.2]
    rfl
theorem few_ok {pos : Pos} {env : PySem.Env} {es : List Expr} (h : es.all plainE = true) (hn : es.length < 30) : ((backTo pos (starEach es env)).all (fun x => !x.1) && (backToKw pos (keywordEach [] env)).all (fun x => x.1.isSome)
      && decide (es.length + ([] : List Keyword).length + (if ([] : List Keyword).isEmpty then 0 else 1) < 30)) = true := by
  rw [back_all h]
  show (true && true && decide (es.length + 0 + 0 < 30)) = true
  rw [decide_eq_true (by omega)]
  rfl
/-- no super() ahead of the dot -/
def noSup : Expr → Bool
  | .Call (.Name id _) [] [] _ => id != "super"
  | _ => true
theorem base_ok {o : Expr} {m : Str} {env : PySem.Env} (h : noSup o = true) : attributeBase o m env (eval o env) = eval o env := by
  unfold attributeBase
  split
  · rename_i id _ pos
    have h : (id != "super") = true := h
    rw [h]
    rfl
  · rfl
theorem meth_tree {o : Expr} {m : Str} {apos pos : Pos} {es : List Expr} {env : PySem.Env} (hb : noSup o = true) (hp : es.all plainE = true) (hn : es.length < 30) (hl : (apos.endLine == pos.line) = true) :
    eval (.Call (.Attribute o m apos) es [] pos) env = (do
      let ov ← eval o env
      standAt apos.atName
      let q ← holding [ov] (getMethod ov m (do return (← importBound o env).getD true))
      callWith pos q.1 q.2 (backTo pos (starEach es env)) (backToKw pos (keywordEach [] env))) := by
  rw [arm_eval_Call, base_ok hb]
  have hf : methodCallForm (es.length + ([] : List Keyword).length) (backTo pos (starEach es env)) (backToKw pos (keywordEach [] env)) = true := few_ok hp hn
  have hpos : methodCallPos true o env apos pos = pure pos := by unfold methodCallPos; simp [hl]
  unfold methodCall calleeOf
  rw [hf]
  simp only [if_true, hpos, pure_bind]
/-- where a call by a dot may stand -/
structure Dot (o : Expr) (apos pos : Pos) (es : List Expr) : Prop where
  sup : noSup o = true
  pl : es.all plainE = true
  few : es.length < 30
  line : (apos.endLine == pos.line) = true
section
variable {X : Cx} {W : WX} {ft : FT} {pos p : Pos} {l r m : Expr} {a b c : E} {es rest : List Expr} {el : EL}
/-! ### methods of own classes -/
theorem s_mcall {o : Expr} {c m q : Str} {j : Nat} {ad : Addr} {g : List D → Sto → R D} {apos : Pos} (tk : Takes X W) (hf : ft.fn q = some g) (F : FnK X (ft.dfl q) ad g) (hj : j ≤ (ft.dfl q).length)
    (cl : Cls X.K (He.ga X.K c)) (hm : Meth X.K (He.ga X.K c) m ad) (ho : PE X o (TEv X.K W ft a)) (ha : PA X es (TAv X.K W ft el)) (dt : Dot o apos pos es) (hes : es = [] → el = .nil) :
    PE X (.Call (.Attribute o m apos) es [] pos) (TEv X.K W ft (.mcall a c m q el j)) := by
  obtain ⟨k, fd, ps, F0, hr, hd⟩ := F.ex
  obtain ⟨dvs, dd, rd, vd, bd⟩ := hd j hj
  have step : ∀ {t : TA}, (∀ σ H Q, TAv X.K W ft el σ H Q → t σ H Q) → ∀ σ H Q, TEv X.K W ft (.mcall a c m q el j) σ H Q → tMethS (He.ga X.K c) m (spD X.K g) dvs (WE W) (TEv X.K W ft a) t σ H Q := by
    rintro t ht σ H Q ⟨μ, Ω, ρ, at_, p⟩
    refine ⟨μ, Ω, ρ, at_, (Post.bind (rel := rD X.K) p).mono ?_⟩
    rintro v H1 ⟨μ1, Ω1, x, _, ex1, r1, p1⟩
    have a1 := at_.ext ex1
    have vx := view ex1.wf r1
    generalize lk Ω1 x = x' at vx p1
    cases x' with
    | ins c' fs =>
      by_cases hc : c' = c
      · subst hc
        simp only [if_true] at p1
        by_cases hl : (fs.lookup m).isSome = true
        · rw [if_pos hl] at p1; exact False.elim p1
        · rw [if_neg hl] at p1
          have hl : fs.lookup m = none := by
            cases e : fs.lookup m with
            | none => rfl
            | some _ => rw [e] at hl; exact absurd rfl hl
          obtain ⟨b, dx, ws, rfl, rr, hq⟩ := vx
          refine ⟨b, dx, ws, rfl, hq, lookup_none rr hl, ht _ _ _ ?_⟩
          obtain ⟨μ0, Ω0, ρ0, a0, p0⟩ := many a1 p1
          refine ⟨μ1, Ω1, ρ, a1, (Post.bind (rel := rL X.K) p1).mono ?_⟩
          rintro vs H2 ⟨μ2, Ω2, ds, _, ex2, r2, p2⟩
          rw [hf] at p2
          have r3 := Reps.cons (Rep.tr ex2.tr _ _ r1) r2
          exact sp_of (ds := x :: ds) ex2.wf r3 rd p2
      · simp only [if_neg hc] at p1; exact False.elim p1
    | _ => exact False.elim p1
  cases es with
  | nil =>
    rw [hes rfl] at step ⊢
    refine (pe_methE0 ho cl hm F0 (hr.mono (Nat.le_succ _)) bd vd (fun σ => passAt tk σ) (meth_tree dt.sup dt.pl dt.few dt.line)).imp (step fun σ H Q ⟨μ, Ω, ρ, at_, p⟩ => ?_)
    exact Post.here (rel := rL X.K) p at_.wf Reps.nil
  | cons e es =>
    have hp := dt.pl
    rw [List.all_cons, Bool.and_eq_true] at hp
    exact (pe_methE ho cl hm F0 (hr.mono (Nat.le_succ _)) bd vd (fun σ => passAt tk σ) ha (star_cons hp.1) (back_any hp.2) (meth_tree dt.sup dt.pl dt.few dt.line)).imp (step fun _ _ _ h => h)
end
end Rf
end
section
namespace Rf
open PySem L2
section
variable {X : Cx} {W : WX} {ft : FT} {pos p : Pos} {l r m : Expr} {a b c : E} {es rest : List Expr} {el : EL}
/-! ### new instances -/
theorem run_makeE {CX : CXT} {k : Nat} {f C : Addr} {fd : FuncData} {ps : List Str} {sp : Sp} {dvs : List V} {ds : List Value} {E : St → XK} {pins : List (Addr × Obj)} {σ : St} {H : Hp} {s : Shared} {Q : VK} {us : List Value} {vs : List V}
    (M : Mk X.K C f) (F : FnOk X.prog X.w X.K X.mg X.base CX k f fd ps sp) (hr : Room (k + 1) X.A) (hb : Binds X.K fd ps ds) (hd : Vals dvs ds) (hx : PassesAt CX X σ (E σ)) (I : Inv X pins σ H s) (rv : Vals vs us)
    (h : ∀ x dx, H x = none → H dx = none → dx ≠ x → sp (.ref x :: (vs ++ dvs)) (upd (upd H dx (.own x)) x (.ins C dx [])) (fun v H2 => v = .non ∧ Q (.ref x) H2) (E σ)) :
    wpAny (model X.prog X.w) X.A (call (.ref C) us) (EP X pins σ Q) X.xe s := by
  let n := s.heap.objs.size
  have h0 := h (n + 1) n (I.hok.fresh (Nat.le_succ _)) (I.hok.fresh (Nat.le_refl _)) (Nat.ne_of_lt (Nat.lt_succ_self _))
  have J := Inv.made (C := C) I
  have rr : Vals (V.ref (n + 1) :: (vs ++ dvs)) (Value.ref (n + 1) :: (us ++ ds)) := .cons rfl (rv.append hd)
  have hl : (Value.ref (n + 1) :: us ++ ds).length = ps.length := by
    have e := rr.length
    rw [F.len _ _ _ _ h0] at e
    exact e.symm
  have bnd := hb _ (Value.ref (n + 1) :: us) J.kIn hl
  have run := F.run _ X.stack _ _ ⟨Value.ref (n + 1) :: us, []⟩ (Value.ref (n + 1) :: (us ++ ds)) _ _ (E σ) (hr.make C us []) (J.env0.make C us []) bnd rr h0
  refine wpAny_call (make_map (f := f) I.kIn M.makes M.init (beq_iff_eq.mp M.fn) (codeAny_mono run fun r s' z => ?_))
  cases r with
  | error e => exact hx pins _ _ e s' J z
  | ok fl =>
    cases fl with
    | ret u =>
      obtain ⟨v, H', I3, ru, ev, q3⟩ := J.after z
      subst ev
      exact ⟨ru, ⟨V.ref (n + 1), H', I3, rfl, q3⟩⟩
    | next => exact False.elim z
    | brk => exact False.elim z
    | cont => exact False.elim z
def tMakeS (C : Addr) (sp : Sp) (dvs : List V) (E : St → XK) (t : TA) : TE := fun σ H Q => t σ H fun vs H1 => ∀ x dx, H1 x = none → H1 dx = none → dx ≠ x →
  sp (.ref x :: (vs ++ dvs)) (upd (upd H1 dx (.own x)) x (.ins C dx [])) (fun v H2 => v = .non ∧ Q (.ref x) H2) (E σ)
theorem pe_makeE {CX : CXT} {k : Nat} {f C : Addr} {fd : FuncData} {ps : List Str} {sp : Sp} {dvs : List V} {ds : List Value} {E : St → XK} {x : Str} {t : TA} (M : Mk X.K C f) (F : FnOk X.prog X.w X.K X.mg X.base CX k f fd ps sp) (hr : Room (k + 1) X.A) (hg : Gl X x) (hm : X.mg x = some (.ref C))
    (hb : Binds X.K fd ps ds) (hd : Vals dvs ds) (hx : ∀ σ, PassesAt CX X σ (E σ)) (ha : PA X es t) (hp : es.all plainE = true) (hnil : es = [] → ∀ σ H Q, t σ H Q → Q [] H) (hdb : (x == ("__debug__" : Str)) = false) :
    PE X (.Call (.Name x p) es [] pos) (tMakeS C sp dvs E t) := by
  refine ⟨fun pins s σ H Q I h => wpAny_Call_Name_kw (ld_glob I hg hm ?_ hdb)⟩
  cases es with
  | nil => exact PySem.W.callWith_K0 I.kIn M.kp (run_makeE (us := []) M F hr hb hd (hx σ) I .nil (hnil rfl _ _ _ h))
  | cons e es =>
    rw [List.all_cons, Bool.and_eq_true] at hp
    refine PySem.W.callWith_K (h₀ := X.base) I.ok.mod.kin M.kp (thn (ha.run pos pins s σ H _ I h) fun us s1 ⟨vs, H1, I1, rv, q⟩ => ⟨I1.kIn, ?_⟩) (star_cons hp.1) (back_any hp.2)
    exact run_makeE M F hr hb hd (hx σ) I1 rv q
theorem s_mk {c q : Str} {j : Nat} {ad : Addr} {g : List D → Sto → R D} (tk : Takes X W) (hf : ft.fn q = some g) (F : FnK X (ft.dfl q) ad g) (hj : j ≤ (ft.dfl q).length) (M : Mk X.K (He.ga X.K c) ad) (hg : Gl X c) (hm : X.mg c = some (.ref (He.ga X.K c)))
    (hdb : (c == ("__debug__" : Str)) = false) (ha : PA X es (TAv X.K W ft el)) (hp : es.all plainE = true) (hes : es = [] → el = .nil) : PE X (.Call (.Name c p) es [] pos) (TEv X.K W ft (.mk c q el j)) := by
  obtain ⟨k, fd, ps, F0, hr, hd⟩ := F.ex
  obtain ⟨dvs, dd, rd, vd, bd⟩ := hd j hj
  refine (pe_makeE M F0 hr hg hm bd vd (fun σ => passAt tk σ) ha hp ?_ hdb).imp fun σ H Q ⟨μ, Ω, ρ, at_, p⟩ => ?_
  · intro e σ H Q ⟨μ, Ω, ρ, at_, p⟩
    rw [hes e] at p
    exact Post.here (rel := rL X.K) p at_.wf Reps.nil
  · refine ⟨μ, Ω, ρ, at_, (Post.bind (rel := rL X.K) p).mono ?_⟩
    rintro vs H1 ⟨μ1, Ω1, ds, _, ex1, r1, p1⟩
    rw [hf] at p1
    intro x dx hx hdx hne
    have ex2 : Ext X.K H1 μ1 Ω1 (upd H1 dx (.own x)) μ1 Ω1 := Ext.new ex1.wf hdx
    have hx2 : (upd H1 dx (.own x)) x = none := by rw [upd_ne (Ne.symm hne)]; exact hx
    have ex3 := Ext.push (ho := .ins (He.ga X.K c) dx []) (ob := .ins c []) ex2.wf hx2 ⟨dx, [], rfl, by simp only [RepS]⟩
    have ex4 := ex2.trans ex3
    have rs : Rep X.K (Fz (upd (upd H1 dx (.own x)) x (.ins (He.ga X.K c) dx [])) (pushM μ1 Ω1.length x) (Ω1 ++ [Ob.ins c []])) (pushM μ1 Ω1.length x) (Ω1 ++ [Ob.ins c []]).length (.hd Ω1.length) (.ref x) := by
      simp only [Rep]
      exact ⟨by rw [List.length_append, List.length_singleton]; omega, by rw [pushM_eq]⟩
    refine ⟨_, _, .hd Ω1.length :: (ds ++ (ft.dfl q).drop j), ex4.wf, Reps.cons rs ((Reps.tr ex4.tr _ _ r1).append (rd _ _ _)), ?_⟩
    have p2 : Post X.K (rD X.K) W σ H1 μ1 Ω1 ((g (.hd Ω1.length :: (ds ++ (ft.dfl q).drop j)) (Ω1 ++ [.ins c []])).bind fun r Ω' => match r, (Ω'[Ω1.length]? : Option Ob) with
      | .non, some (.ins c' fs) => if c' = c then .ok (.ins c fs) (Ω'.set Ω1.length .dead) else .bad
      | _, _ => .bad) Q := p1
    generalize g (.hd Ω1.length :: (ds ++ (ft.dfl q).drop j)) (Ω1 ++ [.ins c []]) = rr at p2 ⊢
    cases rr with
    | bad => exact False.elim p2
    | ex e Ω2 => exact fun d H2 μ2 e2 q2 => p2 d H2 μ2 (ex4.trans e2) q2
    | ok d Ω2 =>
      intro v H2 μ2 e2 r2
      cases d with
      | non =>
        cases eo : Ω2[Ω1.length]? with
        | none => simp only [R.bind, eo] at p2; exact False.elim p2
        | some o =>
          cases o with
          | ins c' fs =>
            simp only [R.bind, eo] at p2
            by_cases hc : c' = c
            · rw [if_pos hc] at p2
              subst hc
              have r2 : v = .non := by simpa only [rD, Rep] using r2
              refine ⟨r2, ?_⟩
              have al : Alive Ω2 Ω1.length := ⟨_, eo, by intro z; cases z⟩
              obtain ⟨ho, h1, dx', ws, rfl, rr⟩ := e2.wf.ob _ _ eo (by intro z; cases z)
              have e3 := Ext.freeze e2.wf al
              have hmu : μ2 Ω1.length = x := by
                rw [e2.mu _ (by rw [List.length_append, List.length_singleton]; omega), pushM_eq]
              have hf := Fz.freeze e2.wf al h1
              rw [hmu] at hf
              refine p2 _ _ _ ((ex4.trans e2).trans e3) ?_
              simp only [rD, Rep]
              exact ⟨x, dx', ws, rfl, RepS.tr e3.tr _ _ rr, hf⟩
            · rw [if_neg hc] at p2; exact False.elim p2
          | _ => simp only [R.bind, eo] at p2; exact False.elim p2
      | _ => exact False.elim p2
end
/-! ### isinstance -/
inductive Kd where
  | non | bl | int | str | tup | lst | dct | own (c : Str)
  deriving DecidableEq
def kdOf : D → Kd
  | .non => .non
  | .bl _ => .bl
  | .int _ => .int
  | .str _ => .str
  | .tup _ => .tup
  | .e0 => .tup
  | .lst _ => .lst
  | .scr _ => .lst
  | .dk _ => .dct
  | .dt _ => .dct
  | .ins c _ => .own c
  | .hd _ => .non
def kdB : Ty → Kd → Bool
  | .int, .int => true
  | .int, .bl => true
  | .bool, .bl => true
  | .str, .str => true
  | .list, .lst => true
  | .tuple, .tup => true
  | .dict, .dct => true
  | .own c, .own c' => decide (c' = c)
  | _, _ => false
theorem tyB_kd (t : Ty) (d : D) (h : ∀ k, d ≠ .hd k) : tyB t d = kdB t (kdOf d) := by
  cases t <;> cases d <;> first | rfl | (exact absurd rfl (h _))
def kdV (K : Frg) : Kd → Value
  | .non => .type "NoneType"
  | .bl => .type "bool"
  | .int => .type "int"
  | .str => .type "str"
  | .tup => .type "tuple"
  | .lst => .type "list"
  | .dct => .type "dict"
  | .own c => .ref (He.ga K c)
def tyN : Ty → Str
  | .int => "int"
  | .bool => "bool"
  | .str => "str"
  | .list => "list"
  | .tuple => "tuple"
  | .dict => "dict"
  | .own c => c
def tyU (K : Frg) : Ty → Value
  | .int => .type "int"
  | .bool => .type "bool"
  | .str => .type "str"
  | .list => .type "list"
  | .tuple => .type "tuple"
  | .dict => .type "dict"
  | .own c => .ref (He.ga K c)
def tyW (K : Frg) : Ty → V
  | .int => .ty "int"
  | .bool => .ty "bool"
  | .str => .ty "str"
  | .list => .ty "list"
  | .tuple => .ty "tuple"
  | .dict => .ty "dict"
  | .own c => .ref (He.ga K c)
theorem ty_cls (K : Frg) (t : Ty) : ClsV (tyW K t) (tyU K t) := by cases t <;> constructor
theorem ty_clss (K : Frg) : ∀ ts : List Ty, Paired ClsV (ts.map (tyW K)) (ts.map (tyU K))
  | [] => .nil
  | t :: ts => .cons (ty_cls K t) (ty_clss K ts)
/-- what isinstance asks of an own class -/
structure OwnC (K : Frg) (c : Str) : Prop where
  cl : Cls K (He.ga K c)
  at_ : PySem.W.findIn K (.ref (He.ga K c)) "__class__" = some (some (.builtin "object.__class__"))
  sp : PySem.W.specialIn K (.builtin "object.__class__") "__get__" = some (some (.builtin "getset_descriptor.__get__"))
  tk : PySem.W.takesIn K (.builtin "object.__class__") = some true
  mro : PySem.W.mroIn K (He.ga K c) (.type "object") = some true
structure IsiOk (K : Frg) (cls : List Str) : Prop where
  own : ∀ c, cls.contains c = true → OwnC K c
  ans : ∀ k t, (∀ c, k = Kd.own c → cls.contains c = true) → tyOk cls t = true → PySem.W.kitOne K (kdV K k) (tyU K t) = some (kdB t k)
section
variable {X : Cx} {W : WX} {ft : FT} {pos p : Pos} {l r m : Expr} {a b c : E} {es rest : List Expr} {el : EL}
theorem kit_v {cls : List Str} {pins : List (Addr × Obj)} {σ : St} {H : Hp} {s : Shared} {μ : Mu} {Ω : Sto} {d : D} {x : V} {u : Value} (F : IsiOk X.K cls) (I : Inv X pins σ H s) (rx : RelV x u) (vx : View X.K H μ Ω d x) (hd : daOk cls d = true) :
    ∃ P : Heap → Prop, PySem.W.KitX X.K u (kdV X.K (kdOf d)) P ∧ P s.heap ∧ u ≠ .builtin "__main__.__loader__#opaque" := by
  cases d with
  | non => cases (show x = .non from vx); cases (show u = Value.none from rx); exact ⟨_, PySem.W.kitx_none, True.intro, fun z => nomatch z⟩
  | bl y => cases (show x = .bl y from vx); cases (show u = Value.bool y from rx); exact ⟨_, PySem.W.kitx_bool, True.intro, fun z => nomatch z⟩
  | int i => cases (show x = .int i from vx); obtain ⟨t, q⟩ := (show ∃ t, u = Value.int i t from rx); cases q; exact ⟨_, PySem.W.kitx_int, True.intro, fun z => nomatch z⟩
  | str i => cases (show x = .str i from vx); obtain ⟨t, q⟩ := (show ∃ t, u = Value.str i t from rx); cases q; exact ⟨_, PySem.W.kitx_str, True.intro, fun z => nomatch z⟩
  | tup xs =>
    obtain ⟨q, vs, rfl, _, _, c, _, _⟩ := vx
    cases (show u = Value.ref q from rx)
    obtain ⟨its, rr, ht, _⟩ := I.tuple c
    obtain ⟨o, h1, h2, _⟩ := ht
    exact ⟨_, PySem.W.kitx_tuple, ⟨o, h1, h2⟩, fun z => nomatch z⟩
  | e0 =>
    obtain ⟨q, rfl, c⟩ := vx
    cases (show u = Value.ref q from rx)
    obtain ⟨its, rr, ht, _⟩ := I.tuple c
    obtain ⟨o, h1, h2, _⟩ := ht
    exact ⟨_, PySem.W.kitx_tuple, ⟨o, h1, h2⟩, fun z => nomatch z⟩
  | lst xs =>
    obtain ⟨q, vs, rfl, _, _, c⟩ := vx
    cases (show u = Value.ref q from rx)
    obtain ⟨its, rr, ht, _⟩ := I.list (show SqL X.K H q vs from .inl (.inl c))
    obtain ⟨o, n, h1, h2, _⟩ := ht
    exact ⟨_, PySem.W.kitx_list, ⟨o, h1, h2⟩, fun z => nomatch z⟩
  | scr xs =>
    obtain ⟨q, rfl, _, c⟩ := vx
    cases (show u = Value.ref q from rx)
    obtain ⟨its, rr, ht, _⟩ := I.list (show SqL X.K H q _ from c)
    obtain ⟨o, n, h1, h2, _⟩ := ht
    exact ⟨_, PySem.W.kitx_list, ⟨o, h1, h2⟩, fun z => nomatch z⟩
  | dk kvs =>
    obtain ⟨q, ws, rfl, _, c⟩ := vx
    cases (show u = Value.ref q from rx)
    obtain ⟨t1, _, _⟩ := isD_at I (.inl ⟨ws, c⟩)
    obtain ⟨o, h1, h2⟩ := t1
    exact ⟨_, PySem.W.kitx_dict, ⟨o, h1, h2⟩, fun z => nomatch z⟩
  | dt kvs =>
    obtain ⟨q, ws, rfl, _, c⟩ := vx
    cases (show u = Value.ref q from rx)
    obtain ⟨t1, _, _⟩ := isD_at I (.inr ⟨ws, c⟩)
    obtain ⟨o, h1, h2⟩ := t1
    exact ⟨_, PySem.W.kitx_dict, ⟨o, h1, h2⟩, fun z => nomatch z⟩
  | ins c fs =>
    obtain ⟨q, dx, ws, rfl, _, ea⟩ := vx
    cases (show u = Value.ref q from rx)
    have oc := F.own c hd
    obtain ⟨mA, O, _⟩ := ins_get I.hok ea
    obtain ⟨od, J, _⟩ := O.look
    exact ⟨_, PySem.W.kitx_own (oc.cl.get _) oc.cl.hd oc.at_ oc.sp oc.tk oc.mro, J, fun z => nomatch z⟩
  | hd k => cases hd
theorem kitAny_kd {K : Frg} {cls : List Str} (F : IsiOk K cls) {k : Kd} (hk : ∀ c, k = Kd.own c → cls.contains c = true) : ∀ {ts : List Ty}, ts.all (tyOk cls) = true → PySem.W.kitAny K (kdV K k) (ts.map (tyU K)) = some (ts.any fun t => kdB t k)
  | [], _ => rfl
  | t :: ts, h => by
    rw [List.all_cons, Bool.and_eq_true] at h
    refine kitAny_cons (b := kdB t k) (F.ans k t hk h.1) (fun e => ?_) (fun e => ?_)
    · rw [List.any_cons, e, Bool.false_or]
      exact kitAny_kd F hk h.2
    · rw [List.any_cons, e, Bool.true_or]
theorem isTys_some {cls : List Str} {d : D} {ts : List Ty} {b : Bool} (e : isTys cls d ts = some b) : daOk cls d = true ∧ ts.all (tyOk cls) = true ∧ b = ts.any (fun t => kdB t (kdOf d)) ∧ ∀ c, kdOf d = Kd.own c → cls.contains c = true := by
  unfold isTys at e
  by_cases h : (daOk cls d && ts.all (tyOk cls)) = true
  · rw [if_pos h] at e
    rw [Bool.and_eq_true] at h
    refine ⟨h.1, h.2, ?_, fun c hc => ?_⟩
    · have hne : ∀ k, d ≠ .hd k := fun k z => by rw [z] at h; exact Bool.noConfusion h.1
      rw [← Option.some.inj e]
      congr 1
      funext t
      exact tyB_kd t d hne
    · cases d with
      | ins c' fs => cases hc; exact h.1
      | _ => cases hc
  · rw [if_neg h] at e
    cases e
def rI1 (K : Frg) (cls : List Str) (t : Ty) : List V → Hp → VK → Prop := fun xs H Q => ∃ μ Ω d x b, xs = [x, tyW K t] ∧ View K H μ Ω d x ∧ isTys cls d [t] = some b ∧ Q (.bl b) H
def rIN (K : Frg) (cls : List Str) (ts : List Ty) : List V → Hp → VK → Prop := fun xs H Q => ∃ μ Ω d x tp b, xs = [x, .ref tp] ∧ H tp = some (.tup (ts.map (tyW K))) ∧ View K H μ Ω d x ∧ isTys cls d ts = some b ∧ Q (.bl b) H
theorem isi_one {cls : List Str} {t : Ty} (F : IsiOk X.K cls) : CallR X (.builtin "isinstance") (rI1 X.K cls t) := by
  intro pins s σ H xs us Q I rr h
  obtain ⟨μ, Ω, d, x, b, rfl, vx, e, q⟩ := h
  obtain ⟨u1, u2, rfl, r1, r2⟩ := vals2 rr
  have e2 := (ty_cls X.K t).eq r2
  subst e2
  obtain ⟨h1, h2, h3, h4⟩ := isTys_some e
  rw [List.all_cons, Bool.and_eq_true] at h2
  obtain ⟨P, Z, pp, hx⟩ := kit_v F I r1 vx h1
  have ans := F.ans (kdOf d) t h4 h2.1
  have hb : b = kdB t (kdOf d) := by rw [h3]; simp
  rw [← hb] at ans
  exact PySem.W.kia_one Z I.kIn pp ans hx fun tk => ⟨.bl b, H, I.tok tk, rfl, q⟩
theorem isi_many {cls : List Str} {ts : List Ty} (F : IsiOk X.K cls) : CallR X (.builtin "isinstance") (rIN X.K cls ts) := by
  intro pins s σ H xs us Q I rr h
  obtain ⟨μ, Ω, d, x, tp, b, rfl, hT, vx, e, q⟩ := h
  obtain ⟨u1, u2, rfl, r1, r2⟩ := vals2 rr
  cases (show u2 = Value.ref tp from r2)
  obtain ⟨h1, h2, h3, h4⟩ := isTys_some e
  obtain ⟨P, Z, pp, hx⟩ := kit_v F I r1 vx h1
  have ans := kitAny_kd F h4 h2
  rw [← h3] at ans
  obtain ⟨_, its, rv, o, g1, g2, n, g3⟩ := (show ObjOk X.prog X.w H s.heap tp (.tup (ts.map (tyW X.K))) from I.hok tp _ hT)
  have e3 := ClsV.all (ty_clss X.K ts) rv
  subst e3
  obtain ⟨oc, od, dt, sl⟩ := o
  simp only at g2 g3
  subst g2 g3
  exact PySem.W.kia_tup Z I.kIn pp g1 ans hx fun tk => ⟨.bl b, H, I.tok tk, rfl, q⟩
/-- a class, written as a name -/
def TyName (X : Cx) (t : Ty) : Prop := Gl X (tyN t) ∧ match t with
  | .own c => X.mg c = some (.ref (He.ga X.K c)) ∧ (c == ("__debug__" : Str)) = false
  | t => X.mg (tyN t) = none
theorem pe_tyN {t : Ty} (h : TyName X t) : PE X (.Name (tyN t) p) (tC (tyW X.K t)) := by
  obtain ⟨hg, h⟩ := h
  cases t with
  | own c => exact pe_glob hg h.1 rfl h.2
  | int => exact pe_bltn hg h (by decide +kernel) rfl (by decide +kernel) (by decide +kernel)
  | bool => exact pe_bltn hg h (by decide +kernel) rfl (by decide +kernel) (by decide +kernel)
  | str => exact pe_bltn hg h (by decide +kernel) rfl (by decide +kernel) (by decide +kernel)
  | list => exact pe_bltn hg h (by decide +kernel) rfl (by decide +kernel) (by decide +kernel)
  | tuple => exact pe_bltn hg h (by decide +kernel) rfl (by decide +kernel) (by decide +kernel)
  | dict => exact pe_bltn hg h (by decide +kernel) rfl (by decide +kernel) (by decide +kernel)
end
end Rf
end
section
namespace Rf
open PySem L2
section
variable {X : Cx} {W : WX} {ft : FT} {pos p : Pos} {l r m : Expr} {a b c : E} {es rest : List Expr} {el : EL}
theorem isi_post {K : Frg} {cls : List Str} {σ : St} {H : Hp} {μ : Mu} {Ω : Sto} {x : D} {ts : List Ty} {Q : VK} (w : Wf K H μ Ω) (p : Post K (rD K) W σ H μ Ω ((opt (isTys cls (lk Ω x) ts) Ω).bind fun b Ω => .ok (.bl b) Ω) Q) :
    ∃ b, isTys cls (lk Ω x) ts = some b ∧ ∀ H', Ext K H μ Ω H' μ Ω → Q (.bl b) H' := by
  cases e : isTys cls (lk Ω x) ts with
  | none => rw [e] at p; exact False.elim p
  | some b => rw [e] at p; exact ⟨b, rfl, fun H' ex => p _ _ _ ex (by simp only [rD, Rep])⟩
theorem s_isi1 {t : Ty} {p2 : Pos} (F : IsiOk X.K ft.cls) (hg : Gl X "isinstance") (hm : X.mg "isinstance" = none) (hn : TyName X t) (ha : PE X l (TEv X.K W ft a)) (hp : plainE l = true) :
    PE X (.Call (.Name "isinstance" p) [l, .Name (tyN t) p2] [] pos) (TEv X.K W ft (.isi a [t])) := by
  refine (pe_callB (isi_one (t := t) F) hg hm (by decide +kernel) (pa_cons ha (pa_cons (pe_tyN hn) pa_nil) (star_cons hp)) (by decide +kernel) (by decide +kernel) (star_cons hp) rfl).imp fun σ H Q ⟨μ, Ω, ρ, at_, p⟩ => ?_
  refine ⟨μ, Ω, ρ, at_, (Post.bind (rel := rD X.K) p).mono ?_⟩
  rintro v H1 ⟨μ1, Ω1, x, _, ex1, r1, p1⟩
  obtain ⟨b, e, q⟩ := isi_post ex1.wf p1
  exact ⟨μ1, Ω1, _, v, b, rfl, view ex1.wf r1, e, q _ (Ext.refl ex1.wf)⟩
theorem pa_tys : ∀ {ts : List Ty} {es : List Expr}, Paired (fun t e => TyName X t ∧ ∃ p, e = Expr.Name (tyN t) p) ts es → PA X es (fun _ H Q => Q (ts.map (tyW X.K)) H)
  | _, _, .nil => pa_nil
  | t :: ts, _, .cons ⟨h, q, e⟩ r => by
    subst e
    exact pa_cons (pe_tyN h) (pa_tys r) rfl
theorem s_isiN {ts : List Ty} {x1 : Nat} {p2 : Pos} (F : IsiOk X.K ft.cls) (hg : Gl X "isinstance") (hm : X.mg "isinstance" = none) (hts : Paired (fun t e => TyName X t ∧ ∃ p, e = Expr.Name (tyN t) p) ts es) (hl : ts.length ≤ 1000) (ha : PE X l (TEv X.K W ft a)) (hp : plainE l = true) :
    PE X (.Call (.Name "isinstance" p) [l, .Tuple es x1 p2] [] pos) (TEv X.K W ft (.isi a ts)) := by
  refine (pe_callB (isi_many (ts := ts) F) hg hm (by decide +kernel) (pa_cons ha (pa_cons (pe_tup (pa_tys hts)) pa_nil) (star_cons hp)) (by decide +kernel) (by decide +kernel) (star_cons hp) rfl).imp fun σ H Q ⟨μ, Ω, ρ, at_, p⟩ => ?_
  refine ⟨μ, Ω, ρ, at_, (Post.bind (rel := rD X.K) p).mono ?_⟩
  rintro v H1 ⟨μ1, Ω1, x, _, ex1, r1, p1⟩
  obtain ⟨b, e, q⟩ := isi_post ex1.wf p1
  refine ⟨by rw [List.length_map, ← big_eq]; exact Nat.le_trans hl (by decide), fun tp htp => ?_⟩
  have ex2 := Ext.new (o := .tup (ts.map (tyW X.K))) ex1.wf htp
  exact ⟨μ1, Ω1, _, v, tp, b, rfl, upd_same, view ex2.wf (Rep.tr ex2.tr _ _ r1), e, q _ ex2⟩
/-! ### methods of built-in types -/
theorem pe_bmG {T id : String} {rr : V → List V → Hp → VK → Prop} {tyv : V → Hp → Prop} {o : Expr} {name : Str} {apos : Pos} {to : TE} {t : TA} (pa : PlainAttrs T) (slot : Slot T name id) (hty : typeOf (.builtin id) = pure (.type "method_descriptor")) (hm : MtR X id rr)
    (hT : ∀ pins s σ H x v, Inv X pins σ H s → RelV x v → tyv x H → s.TypeIs v T ∧ ∀ a, v = .ref a → ∃ ob, s.heap.get? a = some ob ∧ ob.dict = none) (ho : PE X o to) (ha : PA X es t) (hnil : es = [] → ∀ σ H Q, t σ H Q → Q [] H) (dt : Dot o apos pos es) :
    PE X (.Call (.Attribute o name apos) es [] pos) (fun σ H Q => to σ H fun x H1 => tyv x H1 ∧ t σ H1 fun xs H2 => rr x xs H2 Q) := by
  refine ⟨fun pins s σ H Q I h => ?_⟩
  refine wpAny_Call_method (base_ok dt.sup) (few_ok dt.pl dt.few) dt.line pa slot hty (thn (ho.run pins s σ H _ I h) fun v s1 ⟨x, H1, I1, r1, ty, q1⟩ => ?_)
  obtain ⟨h1, h2⟩ := hT pins s1 σ H1 x v I1 r1 ty
  refine ⟨h1, h2, Calls.callWith_builtin (back_any dt.pl) ?_⟩
  cases es with
  | nil => exact PySem.evalArgs_none (hm pins s1 σ H1 x [] v [] Q I1 r1 .nil (hnil rfl _ _ _ q1))
  | cons e es =>
    have hp := dt.pl
    rw [List.all_cons, Bool.and_eq_true] at hp
    have hA := ha.run pos pins s1 σ H1 _ I1 q1
    rw [star_cons hp.1] at hA ⊢
    exact Calls.evalArgs_plain (thn hA fun us s2 ⟨vs, H2, I2, r2, q2⟩ => hm pins s2 σ H2 x vs v us Q I2 r1 r2 q2)
/-- a method's answer, as the interpreter tells it -/
def rM (K : Frg) (m : Mt) : V → List V → Hp → VK → Prop := fun x vs H Q => ∃ μ Ω d ds, Wf K H μ Ω ∧ Rep K (Fz H μ Ω) μ Ω.length d x ∧ Reps K (Fz H μ Ω) μ Ω.length ds vs ∧ Post K (rD K) (fun _ _ _ _ => False) [] H μ Ω (methX m d ds Ω) Q
theorem Reps.one' {K : Frg} {G : Hp} {μ : Mu} {n : Nat} {d : D} {vs : List V} (h : Reps K G μ n [d] vs) : ∃ v, vs = [v] ∧ Rep K G μ n d v := by
  simp only [Reps] at h
  obtain ⟨v, ws, rfl, r, rfl⟩ := h
  exact ⟨v, rfl, r⟩
theorem Reps.two' {K : Frg} {G : Hp} {μ : Mu} {n : Nat} {d e : D} {vs : List V} (h : Reps K G μ n [d, e] vs) : ∃ v w, vs = [v, w] ∧ Rep K G μ n d v ∧ Rep K G μ n e w := by
  simp only [Reps] at h
  obtain ⟨v, ws, rfl, r, w, _, rfl, r2, rfl⟩ := h
  exact ⟨v, w, rfl, r, r2⟩
theorem Reps.dropLast {K : Frg} {G : Hp} {μ : Mu} {n : Nat} {xs : List D} {vs : List V} (h : Reps K G μ n xs vs) : Reps K G μ n xs.dropLast vs.dropLast := by
  rw [List.dropLast_eq_take, List.dropLast_eq_take, h.length]
  exact h.take _
theorem Reps.erase {K : Frg} {G : Hp} {μ : Mu} {n : Nat} : ∀ {xs : List D} {vs : List V} (i : Nat), Reps K G μ n xs vs → Reps K G μ n (xs.eraseIdx i) (vs.eraseIdx i)
  | [], vs, i, h => by simp only [Reps] at h; rw [h]; simpa using Reps.nil
  | d :: ds, vs, 0, h => by
    simp only [Reps] at h
    obtain ⟨v, ws, rfl, _, r⟩ := h
    exact r
  | d :: ds, vs, i + 1, h => by
    simp only [Reps] at h
    obtain ⟨v, ws, rfl, r, rs⟩ := h
    exact Reps.cons r (rs.erase i)
/-- a list of the store -/
theorem Wf.lst {K : Frg} {H : Hp} {μ : Mu} {Ω : Sto} {k : Nat} {xs : List D} (w : Wf K H μ Ω) (e : Ω[k]? = some (.lst xs)) : Alive Ω k ∧ ∃ vs, H (μ k) = some (.lst vs) ∧ Reps K (Fz H μ Ω) μ Ω.length xs vs ∧ vs.length ≤ sizeLine := by
  obtain ⟨ho, h1, vs, rfl, r, z⟩ := w.ob k _ e (by intro z; cases z)
  exact ⟨⟨_, e, by intro z; cases z⟩, vs, h1, r, z⟩
theorem put_lst {K : Frg} {H : Hp} {μ : Mu} {Ω : Sto} {k : Nat} {ys : List D} {vs : List V} {d : D} {Q : VK} {v : V} (w : Wf K H μ Ω) (ha : Alive Ω k) (r : Reps K (Fz H μ Ω) μ Ω.length ys vs) (z : vs.length ≤ sizeLine) (rd : Rep K (Fz H μ Ω) μ Ω.length d v)
    (p : Post K (rD K) (fun _ _ _ _ => False) [] H μ Ω (.ok d (Ω.set k (.lst ys))) Q) : Q v (upd H (μ k) (.lst vs)) := by
  have ex := Ext.put (ho := .lst vs) (ob := .lst ys) w ha (by intro z; cases z) ⟨vs, rfl, r, z⟩
  exact p _ _ _ ex (Rep.tr ex.tr _ _ rd)
theorem rnon {K : Frg} {G : Hp} {μ : Mu} {n : Nat} : Rep K G μ n .non .non := by simp only [Rep]
theorem mtm_append : MtR X "list.append" (rM X.K .append) := by
  intro pins s σ H x vs v us Q I rx rv ⟨μ, Ω, d, ds, w, rd, rs, p⟩
  refine mt_append pins s σ H x vs v us Q I rx rv ?_
  cases d with
  | hd k =>
    match ds, rs, p with
    | [y], rs, p =>
      have p : Post X.K (rD X.K) (fun _ _ _ _ => False) [] H μ Ω (match (Ω[k]? : Option Ob) with
        | some (.lst xs) => if xs.length < big then .ok .non (Ω.set k (.lst (xs ++ [y]))) else .bad
        | _ => .bad) Q := p
      cases eo : Ω[k]? with
      | none => rw [eo] at p; exact False.elim p
      | some o =>
        rw [eo] at p
        cases o with
        | lst xs =>
          by_cases hz : xs.length < big
          · simp only [if_pos hz] at p
            obtain ⟨al, ws, h1, r1, z⟩ := w.lst eo
            obtain ⟨u, rfl, ru⟩ := rs.one'
            simp only [Rep] at rd
            rw [rd.2]
            refine ⟨μ k, ws, u, rfl, rfl, h1, ?_, ?_⟩
            · rw [r1.length, ← big_eq]; exact hz
            · refine put_lst w al (r1.append (Reps.one ru)) ?_ rnon p
              rw [List.length_append, List.length_singleton, r1.length, ← big_eq]; exact hz
          · simp only [if_neg hz] at p; exact False.elim p
        | _ => exact False.elim p
    | [], rs, p => exact False.elim p
    | _ :: _ :: _, rs, p => exact False.elim p
  | _ => exact False.elim p
theorem mtm_extend : MtR X "list.extend" (rM X.K .extend) := by
  intro pins s σ H x vs v us Q I rx rv ⟨μ, Ω, d, ds, w, rd, rs, p⟩
  refine mt_extend pins s σ H x vs v us Q I rx rv ?_
  cases d with
  | hd k =>
    match ds, rs, p with
    | [y], rs, p =>
      have p : Post X.K (rD X.K) (fun _ _ _ _ => False) [] H μ Ω (match (Ω[k]? : Option Ob), lk Ω y with
        | some (.lst xs), .lst ys => if xs.length + ys.length ≤ big then .ok .non (Ω.set k (.lst (xs ++ ys))) else .bad
        | _, _ => .bad) Q := p
      obtain ⟨u, rfl, ru⟩ := rs.one'
      have vu := view w ru
      cases eo : Ω[k]? with
      | none => rw [eo] at p; exact False.elim p
      | some o =>
        rw [eo] at p
        cases o with
        | lst xs =>
          generalize lk Ω y = y' at p vu
          cases y' with
          | lst ys =>
            by_cases hz : xs.length + ys.length ≤ big
            · simp only [if_pos hz] at p
              obtain ⟨al, ws, h1, r1, z⟩ := w.lst eo
              obtain ⟨q, us', rfl, r2, z2, h2⟩ := vu
              simp only [Rep] at rd
              rw [rd.2]
              have hz' : ws.length + us'.length ≤ sizeLine := by rw [r1.length, r2.length, ← big_eq]; exact hz
              exact ⟨μ k, q, ws, us', rfl, rfl, h1, h2, hz', put_lst w al (r1.append r2) (by rw [List.length_append]; exact hz') rnon p⟩
            · simp only [if_neg hz] at p; exact False.elim p
          | _ => exact False.elim p
        | _ => exact False.elim p
    | [], rs, p => exact False.elim p
    | _ :: _ :: _, rs, p => exact False.elim p
  | _ => exact False.elim p
theorem mtm_pop : MtR X "list.pop" (rM X.K .pop) := by
  intro pins s σ H x vs v us Q I rx rv ⟨μ, Ω, d, ds, w, rd, rs, p⟩
  refine mt_pop pins s σ H x vs v us Q I rx rv ?_
  cases d with
  | hd k =>
    match ds, rs, p with
    | [], rs, p =>
      have p : Post X.K (rD X.K) (fun _ _ _ _ => False) [] H μ Ω (match (Ω[k]? : Option Ob) with
        | some (.lst xs) => match xs[xs.length - 1]? with
          | some y => .ok y (Ω.set k (.lst xs.dropLast))
          | none => .bad
        | _ => .bad) Q := p
      cases eo : Ω[k]? with
      | none => rw [eo] at p; exact False.elim p
      | some o =>
        rw [eo] at p
        cases o with
        | lst xs =>
          obtain ⟨al, ws, h1, r1, z⟩ := w.lst eo
          cases ey : xs[xs.length - 1]? with
          | none => simp only [ey] at p; exact False.elim p
          | some y =>
            simp only [ey] at p
            obtain ⟨u, hu, ru⟩ := r1.get ey
            simp only [Rep] at rd
            simp only [Reps] at rs
            rw [rd.2, rs]
            refine ⟨μ k, ws, u, rfl, rfl, h1, by rw [r1.length]; exact hu, put_lst w al r1.dropLast ?_ ru p⟩
            rw [List.length_dropLast]; omega
        | _ => exact False.elim p
    | _ :: _, rs, p => exact False.elim p
  | _ => exact False.elim p
theorem mtm_popi : MtR X "list.pop" (rM X.K .popi) := by
  intro pins s σ H x vs v us Q I rx rv ⟨μ, Ω, d, ds, w, rd, rs, p⟩
  refine mt_popAt pins s σ H x vs v us Q I rx rv ?_
  cases d with
  | hd k =>
    match ds, rs, p with
    | [.int i], rs, p =>
      have p : Post X.K (rD X.K) (fun _ _ _ _ => False) [] H μ Ω (match (Ω[k]? : Option Ob) with
        | some (.lst xs) => match ixN xs.length i with
          | some j => match xs[j]? with
            | some y => if -(2 ^ 63) ≤ i ∧ i < 2 ^ 63 then .ok y (Ω.set k (.lst (xs.eraseIdx j))) else .bad
            | none => .bad
          | none => .bad
        | _ => .bad) Q := p
      cases eo : Ω[k]? with
      | none => rw [eo] at p; exact False.elim p
      | some o =>
        rw [eo] at p
        cases o with
        | lst xs =>
          obtain ⟨al, ws, h1, r1, z⟩ := w.lst eo
          cases ej : ixN xs.length i with
          | none => simp only [ej] at p; exact False.elim p
          | some j =>
            simp only [ej] at p
            cases ey : xs[j]? with
            | none => simp only [ey] at p; exact False.elim p
            | some y =>
              simp only [ey] at p
              by_cases hz : -(2 ^ 63) ≤ i ∧ i < 2 ^ 63
              · simp only [if_pos hz] at p
                obtain ⟨u, hu, ru⟩ := r1.get ey
                obtain ⟨u1, rfl, r2⟩ := rs.one'
                simp only [Rep] at rd r2
                rw [rd.2, r2]
                refine ⟨μ k, ws, i, j, u, rfl, rfl, h1, hz.1, hz.2, by rw [r1.length]; exact (ixN_seq ej).1, hu, put_lst w al (r1.erase j) ?_ ru p⟩
                exact Nat.le_trans (len_erase _ _) z
              · simp only [if_neg hz] at p; exact False.elim p
        | _ => exact False.elim p
    | [], rs, p => exact False.elim p
    | [.non], rs, p => exact False.elim p
    | [.bl _], rs, p => exact False.elim p
    | [.str _], rs, p => exact False.elim p
    | [.tup _], rs, p => exact False.elim p
    | [.e0], rs, p => exact False.elim p
    | [.lst _], rs, p => exact False.elim p
    | [.scr _], rs, p => exact False.elim p
    | [.dk _], rs, p => exact False.elim p
    | [.dt _], rs, p => exact False.elim p
    | [.ins _ _], rs, p => exact False.elim p
    | [.hd _], rs, p => exact False.elim p
    | d1 :: _ :: _, rs, p => cases d1 <;> exact False.elim p
  | _ => exact False.elim p
theorem mtm_clear : MtR X "list.clear" (rM X.K .clear) := by
  intro pins s σ H x vs v us Q I rx rv ⟨μ, Ω, d, ds, w, rd, rs, p⟩
  refine mt_clear pins s σ H x vs v us Q I rx rv ?_
  cases d with
  | hd k =>
    match ds, rs, p with
    | [], rs, p =>
      have p : Post X.K (rD X.K) (fun _ _ _ _ => False) [] H μ Ω (match (Ω[k]? : Option Ob) with
        | some (.lst xs) => .ok .non (Ω.set k (.lst []))
        | _ => .bad) Q := p
      cases eo : Ω[k]? with
      | none => rw [eo] at p; exact False.elim p
      | some o =>
        rw [eo] at p
        cases o with
        | lst xs =>
          obtain ⟨al, ws, h1, r1, z⟩ := w.lst eo
          simp only [Rep] at rd
          simp only [Reps] at rs
          rw [rd.2, rs]
          exact ⟨μ k, ws, rfl, rfl, h1, put_lst w al Reps.nil (Nat.zero_le _) rnon p⟩
        | _ => exact False.elim p
    | _ :: _, rs, p => exact False.elim p
  | _ => exact False.elim p
theorem join_sum (n : Nat) : ∀ ss : List Str, (ss.map fun s => s.length + n).sum = (ss.map (·.length)).sum + ss.length * n
  | [] => by simp
  | s :: ss => by
    simp only [List.map_cons, List.sum_cons, List.length_cons]
    rw [join_sum n ss, Nat.add_mul]
    omega
theorem mtm_join : MtR X "str.join" (rM X.K .join) := by
  intro pins s σ H x vs v us Q I rx rv ⟨μ, Ω, d, ds, w, rd, rs, p⟩
  refine mt_join pins s σ H x vs v us Q I rx rv ?_
  have p : Post X.K (rD X.K) (fun _ _ _ _ => False) [] H μ Ω (opt (methD .join (lk Ω d) ds) Ω) Q := p
  obtain ⟨r0, e, k⟩ := p.optD
  have vd := view w rd
  generalize lk Ω d = d' at vd e
  cases d' with
  | str sep =>
    match ds, rs, e with
    | [y], rs, e =>
      obtain ⟨u, rfl, ru⟩ := rs.one'
      have vu := view0 ru
      have e : (match seqD y with
        | some xs => match strsD xs with
          | some ss => if (ss.map fun s => s.length + sep.length).sum ≤ big then some (D.str (joinD sep ss)) else none
          | none => none
        | none => none) = some r0 := e
      cases e1 : seqD y with
      | none => rw [e1] at e; cases e
      | some xs =>
        rw [e1] at e
        simp only at e
        cases e2 : strsD xs with
        | none => rw [e2] at e; cases e
        | some ss =>
          rw [e2] at e
          obtain ⟨hz, rfl⟩ := opt_if e
          obtain ⟨q, ws, rfl, r1, z, c⟩ := view_seq vu e1
          have ew := strs_rep r1 e2
          subst ew
          refine ⟨sep, q, ss, vd, rfl, c, ?_, k.str w⟩
          rw [← join_sum]; exact hz
    | [], rs, e => cases e
    | _ :: _ :: _, rs, e => cases e
  | _ => cases e
theorem mtm_get (hu : X.A.units + 1 < cLine) : MtR X "dict.get" (rM X.K .get1) := by
  intro pins s σ H x vs v us Q I rx rv ⟨μ, Ω, d, ds, w, rd, rs, p⟩
  have p : Post X.K (rD X.K) (fun _ _ _ _ => False) [] H μ Ω (opt (methD .get1 (lk Ω d) ds) Ω) Q := p
  obtain ⟨r0, e, k⟩ := p.optD
  have vd := view w rd
  generalize lk Ω d = d' at vd e
  match ds, rs, e with
  | [y], rs, e =>
    obtain ⟨u, rfl, ru⟩ := rs.one'
    have vu := view0 ru
    obtain ⟨u1, rfl, r1⟩ := rv.one
    cases d' with
    | dk kvs =>
      have e : ((keyD y).map fun k => (getK kvs k).getD D.non) = some r0 := e
      obtain ⟨q, e1, rfl⟩ := Option.map_eq_some_iff.mp e
      obtain ⟨b, ws, rfl, rk, g⟩ := dget_k vu vd e1
      cases rx
      refine d_get1 hu I g r1 fun w' s3 I3 rw' => ⟨_, H, I3, rw', ?_⟩
      have := getK_rep (k := q) rk
      cases e2 : getK kvs q with
      | none =>
        rw [e2] at k
        rw [this.2 e2]
        exact k.now w rnon
      | some z =>
        rw [e2] at k
        obtain ⟨t, e3, rt⟩ := this.1 z e2
        rw [e3]
        exact k.now w rt
    | dt kvs =>
      have e : ((tkeyD y).map fun k => (getK kvs k).getD D.non) = some r0 := e
      obtain ⟨q, e1, rfl⟩ := Option.map_eq_some_iff.mp e
      obtain ⟨b, ws, rfl, rk, g⟩ := dget_t vu vd e1
      cases rx
      refine d_get1 hu I g r1 fun w' s3 I3 rw' => ⟨_, H, I3, rw', ?_⟩
      have := getT_rep (k := q) rk
      cases e2 : getK kvs q with
      | none =>
        rw [e2] at k
        rw [this.2 e2]
        exact k.now w rnon
      | some z =>
        rw [e2] at k
        obtain ⟨t, e3, rt⟩ := this.1 z e2
        rw [e3]
        exact k.now w rt
    | _ => cases e
  | [], rs, e => cases d' <;> cases e
  | _ :: _ :: _, rs, e => cases d' <;> cases e
theorem mtm_get2 (hu : X.A.units + 1 < cLine) : MtR X "dict.get" (rM X.K .get2) := by
  intro pins s σ H x vs v us Q I rx rv ⟨μ, Ω, d, ds, w, rd, rs, p⟩
  have p : Post X.K (rD X.K) (fun _ _ _ _ => False) [] H μ Ω (opt (methD .get2 (lk Ω d) ds) Ω) Q := p
  obtain ⟨r0, e, k⟩ := p.optD
  have vd := view w rd
  generalize lk Ω d = d' at vd e
  match ds, rs, e with
  | [y, z], rs, e =>
    obtain ⟨u, u', rfl, ru, ru'⟩ := rs.two'
    have vu := view0 ru
    obtain ⟨u1, u2, rfl, r1, r2⟩ := rv.two
    cases d' with
    | dk kvs =>
      have e : ((keyD y).map fun k => (getK kvs k).getD z) = some r0 := e
      obtain ⟨q, e1, rfl⟩ := Option.map_eq_some_iff.mp e
      obtain ⟨b, ws, rfl, rk, g⟩ := dget_k vu vd e1
      cases rx
      refine d_get2 hu I g r1 r2 fun w' s3 I3 rw' => ⟨_, H, I3, rw', ?_⟩
      have := getK_rep (k := q) rk
      cases e2 : getK kvs q with
      | none =>
        rw [e2] at k
        rw [this.2 e2]
        exact k.now w ru'
      | some z =>
        rw [e2] at k
        obtain ⟨t, e3, rt⟩ := this.1 z e2
        rw [e3]
        exact k.now w rt
    | dt kvs =>
      have e : ((tkeyD y).map fun k => (getK kvs k).getD z) = some r0 := e
      obtain ⟨q, e1, rfl⟩ := Option.map_eq_some_iff.mp e
      obtain ⟨b, ws, rfl, rk, g⟩ := dget_t vu vd e1
      cases rx
      refine d_get2 hu I g r1 r2 fun w' s3 I3 rw' => ⟨_, H, I3, rw', ?_⟩
      have := getT_rep (k := q) rk
      cases e2 : getK kvs q with
      | none =>
        rw [e2] at k
        rw [this.2 e2]
        exact k.now w ru'
      | some z =>
        rw [e2] at k
        obtain ⟨t, e3, rt⟩ := this.1 z e2
        rw [e3]
        exact k.now w rt
    | _ => cases e
  | [], rs, e => cases d' <;> cases e
  | [_], rs, e => cases d' <;> cases e
  | _ :: _ :: _ :: _, rs, e => cases d' <;> cases e
/-- what a method is asked of, by value -/
def recvV : Mt → V → Hp → Prop
  | .join, x, _ => ∃ s, x = .str s
  | .get1, x, H => ∃ q, x = .ref q ∧ IsD H q
  | .get2, x, H => ∃ q, x = .ref q ∧ IsD H q
  | _, x, H => ∃ q vs, x = .ref q ∧ H q = some (.lst vs)
theorem recv_of {K : Frg} {H : Hp} {μ : Mu} {Ω : Sto} {m : Mt} {d : D} {v : V} (h : recvOk m d = true) (vd : View K H μ Ω d v) : recvV m v H := by
  cases m <;> cases d <;> first | exact Bool.noConfusion h | skip
  all_goals first
    | exact ⟨_, vd⟩
    | (obtain ⟨q, vs, e, _, _, c⟩ := vd; exact ⟨q, vs, e, c⟩)
    | (obtain ⟨q, vs, e, _, c⟩ := vd; exact ⟨q, e, .inl ⟨_, c⟩⟩)
    | (obtain ⟨q, vs, e, _, c⟩ := vd; exact ⟨q, e, .inr ⟨_, c⟩⟩)
theorem recv_lst {pins : List (Addr × Obj)} {s : Shared} {σ : St} {H : Hp} {x : V} {v : Value} (I : Inv X pins σ H s) (rx : RelV x v) (h : ∃ q vs, x = .ref q ∧ H q = some (.lst vs)) : s.TypeIs v "list" ∧ ∀ a, v = .ref a → ∃ ob, s.heap.get? a = some ob ∧ ob.dict = none := by
  obtain ⟨q, vs, rfl, e⟩ := h
  cases rx
  obtain ⟨its, rr, ht, _⟩ := I.list (show SqL X.K H q vs from .inl (.inl e))
  obtain ⟨o, n, h1, h2, h3, _⟩ := ht
  exact ⟨⟨o, h1, h2⟩, fun a e => by cases e; exact ⟨o, h1, h3⟩⟩
theorem recv_str {s : Shared} {x : V} {v : Value} (rx : RelV x v) (h : ∃ q, x = .str q) : s.TypeIs v "str" ∧ ∀ a, v = .ref a → ∃ ob, s.heap.get? a = some ob ∧ ob.dict = none := by
  obtain ⟨q, rfl⟩ := h
  obtain ⟨t, rfl⟩ := rx
  exact ⟨typeIs_str _ _ _, fun _ e => nomatch e⟩
theorem recv_dct {pins : List (Addr × Obj)} {s : Shared} {σ : St} {H : Hp} {x : V} {v : Value} (I : Inv X pins σ H s) (rx : RelV x v) (h : ∃ q, x = .ref q ∧ IsD H q) : s.TypeIs v "dict" ∧ ∀ a, v = .ref a → ∃ ob, s.heap.get? a = some ob ∧ ob.dict = none := by
  obtain ⟨q, rfl, e⟩ := h
  cases rx
  obtain ⟨h1, h2, _⟩ := isD_at I e
  exact ⟨h1, h2⟩
theorem i_meth {m : Mt} {σ : St} {H : Hp} {Q : VK} (h : TEv X.K W ft (.meth a m el) σ H Q) : TEv X.K W ft a σ H fun x H1 => recvV m x H1 ∧ TAv X.K W ft el σ H1 fun xs H2 => rM X.K m x xs H2 Q := by
  obtain ⟨μ, Ω, ρ, at_, p⟩ := h
  refine ⟨μ, Ω, ρ, at_, (Post.bind (rel := rD X.K) p).mono ?_⟩
  rintro v H1 ⟨μ1, Ω1, x, _, ex1, r1, p1⟩
  by_cases hr : recvOk m (lk Ω1 x) = true
  · rw [if_pos hr] at p1
    refine ⟨recv_of hr (view ex1.wf r1), μ1, Ω1, ρ, at_.ext ex1, (Post.bind (rel := rL X.K) p1).mono ?_⟩
    rintro vs H2 ⟨μ2, Ω2, ds, _, ex2, r2, p2⟩
    refine ⟨μ2, Ω2, x, ds, ex2.wf, Rep.tr ex2.tr _ _ r1, r2, ?_⟩
    have hno : ∀ e Ω', methX m x ds Ω2 ≠ .ex e Ω' := by
      intro e Ω' z
      unfold methX at z
      split at z
      · unfold opt at z
        split at z <;> cases z
      · split at z
        · unfold methM at z
          repeat' (split at z)
          all_goals cases z
        · cases z
    generalize methX m x ds Ω2 = rr at p2 hno
    cases rr with
    | ok d Ω3 => exact p2
    | ex e Ω3 => exact absurd rfl (hno e Ω3)
    | bad => exact False.elim p2
  · rw [if_neg hr] at p1; exact False.elim p1
theorem ta_nil (hes : es = [] → el = .nil) (e : es = []) (σ : St) (H : Hp) (Q : List V → Hp → Prop) (h : TAv X.K W ft el σ H Q) : Q [] H := by
  obtain ⟨μ, Ω, ρ, at_, p⟩ := h
  rw [hes e] at p
  exact Post.here (rel := rL X.K) p at_.wf Reps.nil
theorem s_meth {o : Expr} {apos : Pos} (m : Mt) (hu : X.A.units + 1 < cLine) (ho : PE X o (TEv X.K W ft a)) (ha : PA X es (TAv X.K W ft el)) (dt : Dot o apos pos es) (hes : es = [] → el = .nil) :
    PE X (.Call (.Attribute o m.name apos) es [] pos) (TEv X.K W ft (.meth a m el)) := by
  cases m with
  | append => exact (pe_bmG (tyv := recvV .append) F.plainAttrs_list F.slot_list_append F.type_list_append mtm_append (fun _ _ _ _ _ _ I rx h => recv_lst I rx h) ho ha (ta_nil hes) dt).imp fun _ _ _ h => i_meth h
  | extend => exact (pe_bmG (tyv := recvV .extend) F.plainAttrs_list F.slot_list_extend F.type_list_extend mtm_extend (fun _ _ _ _ _ _ I rx h => recv_lst I rx h) ho ha (ta_nil hes) dt).imp fun _ _ _ h => i_meth h
  | pop => exact (pe_bmG (tyv := recvV .pop) F.plainAttrs_list F.slot_list_pop F.type_list_pop mtm_pop (fun _ _ _ _ _ _ I rx h => recv_lst I rx h) ho ha (ta_nil hes) dt).imp fun _ _ _ h => i_meth h
  | popi => exact (pe_bmG (tyv := recvV .popi) F.plainAttrs_list F.slot_list_pop F.type_list_pop mtm_popi (fun _ _ _ _ _ _ I rx h => recv_lst I rx h) ho ha (ta_nil hes) dt).imp fun _ _ _ h => i_meth h
  | clear => exact (pe_bmG (tyv := recvV .clear) F.plainAttrs_list F.slot_list_clear F.type_list_clear mtm_clear (fun _ _ _ _ _ _ I rx h => recv_lst I rx h) ho ha (ta_nil hes) dt).imp fun _ _ _ h => i_meth h
  | join => exact (pe_bmG (tyv := recvV .join) F.plainAttrs_str F.slot_str_join F.type_str_join mtm_join (fun _ _ _ _ _ _ I rx h => recv_str rx h) ho ha (ta_nil hes) dt).imp fun _ _ _ h => i_meth h
  | get1 => exact (pe_bmG (tyv := recvV .get1) F.plainAttrs_dict F.slot_dict_get F.type_dict_get (mtm_get hu) (fun _ _ _ _ _ _ I rx h => recv_dct I rx h) ho ha (ta_nil hes) dt).imp fun _ _ _ h => i_meth h
  | get2 => exact (pe_bmG (tyv := recvV .get2) F.plainAttrs_dict F.slot_dict_get F.type_dict_get (mtm_get2 hu) (fun _ _ _ _ _ _ I rx h => recv_dct I rx h) ho ha (ta_nil hes) dt).imp fun _ _ _ h => i_meth h
theorem lk_rep {K : Frg} {H : Hp} {μ : Mu} {Ω : Sto} {d : D} {v : V} (w : Wf K H μ Ω) (r : Rep K (Fz H μ Ω) μ Ω.length d v) (h : ∀ k, d ≠ .hd k) : lk Ω d = d := by
  cases d with
  | hd k => exact absurd rfl (h k)
  | _ => rfl
end
end Rf
end
section
namespace Rf
open PySem L2
/-! ### what is gone through -/
section
variable {K : Frg} {H : Hp} {μ : Mu} {Ω : Sto}
theorem same_yld {H' : Hp} {μ' : Mu} {Ω' : Sto} {d : D} {v : V} (w : Wf K H' μ' Ω') (r : Rep K (Fz H' μ' Ω') μ' Ω'.length d v) : (∀ a o, H' a = some o → H' a = some o) ∧ Ext K H' μ' Ω' H' μ' Ω' ∧ Rep K (Fz H' μ' Ω') μ' Ω'.length d v := ⟨fun _ _ h => h, Ext.refl w, r⟩
theorem it_list {d : D} {a : Addr} {xs : List D} (r : Rep K (Fz H μ Ω) μ Ω.length d (.ref a)) (e : seqD d = some xs) (hl : ∀ H' μ' Ω', Rep K (Fz H' μ' Ω') μ' Ω'.length d (.ref a) → ∃ vs, Reps K (Fz H' μ' Ω') μ' Ω'.length xs vs ∧ SqL K H' a vs) : ItRep K (Itl K a) H μ Ω xs where
  stop := fun i H' μ' Ω' ex hi => by
    obtain ⟨vs, rs, sq⟩ := hl _ _ _ (Rep.tr ex.tr _ _ r)
    exact ⟨vs, sq, by rw [rs.length]; exact hi⟩
  go := fun i H' μ' Ω' ex hi => by
    obtain ⟨vs, rs, sq⟩ := hl _ _ _ (Rep.tr ex.tr _ _ r)
    obtain ⟨v, e1, _⟩ := rs.get (List.getElem?_eq_getElem hi)
    exact ⟨vs, v, sq, e1⟩
  yld := fun i H' μ' Ω' v H'' d' ex hd ⟨h1, h2⟩ => by
    subst h1
    obtain ⟨vs, rs, sq⟩ := hl _ _ _ (Rep.tr ex.tr _ _ r)
    obtain ⟨u, e1, ru⟩ := rs.get hd
    have := h2 vs sq
    rw [this] at e1
    cases e1
    exact same_yld ex.wf ru
theorem it_tup {d : D} {a : Addr} {xs : List D} (r : Rep K (Fz H μ Ω) μ Ω.length d (.ref a)) (e : seqD d = some xs) (hl : ∀ H' μ' Ω', Rep K (Fz H' μ' Ω') μ' Ω'.length d (.ref a) → ∃ vs, Reps K (Fz H' μ' Ω') μ' Ω'.length xs vs ∧ SqT K H' a vs) : ItRep K (Itt K a) H μ Ω xs where
  stop := fun i H' μ' Ω' ex hi => by
    obtain ⟨vs, rs, sq⟩ := hl _ _ _ (Rep.tr ex.tr _ _ r)
    exact ⟨vs, sq, by rw [rs.length]; exact hi⟩
  go := fun i H' μ' Ω' ex hi => by
    obtain ⟨vs, rs, sq⟩ := hl _ _ _ (Rep.tr ex.tr _ _ r)
    obtain ⟨v, e1, _⟩ := rs.get (List.getElem?_eq_getElem hi)
    exact ⟨vs, v, sq, e1⟩
  yld := fun i H' μ' Ω' v H'' d' ex hd ⟨h1, h2⟩ => by
    subst h1
    obtain ⟨vs, rs, sq⟩ := hl _ _ _ (Rep.tr ex.tr _ _ r)
    obtain ⟨u, e1, ru⟩ := rs.get hd
    have := h2 vs sq
    rw [this] at e1
    cases e1
    exact same_yld ex.wf ru
theorem lst_sq {xs : List D} {a : Addr} (r : Rep K (Fz H μ Ω) μ Ω.length (.lst xs) (.ref a)) : ∃ vs, Reps K (Fz H μ Ω) μ Ω.length xs vs ∧ SqL K H a vs := by
  obtain ⟨p, vs, e, rs, _, c⟩ := view0 r
  cases e
  exact ⟨vs, rs, .inl (.inl c)⟩
theorem scr_sq {ns : List Int} {a : Addr} (r : Rep K (Fz H μ Ω) μ Ω.length (.scr ns) (.ref a)) : ∃ vs, Reps K (Fz H μ Ω) μ Ω.length (ns.map .int) vs ∧ SqL K H a vs := by
  obtain ⟨p, e, _, c⟩ := view0 r
  cases e
  exact ⟨_, ints_back ns, c⟩
theorem tup_sq {xs : List D} {a : Addr} (r : Rep K (Fz H μ Ω) μ Ω.length (.tup xs) (.ref a)) : ∃ vs, Reps K (Fz H μ Ω) μ Ω.length xs vs ∧ SqT K H a vs := by
  obtain ⟨p, vs, e, rs, _, c, _⟩ := view0 r
  cases e
  exact ⟨vs, rs, c⟩
theorem e0_sq {a : Addr} (r : Rep K (Fz H μ Ω) μ Ω.length .e0 (.ref a)) : ∃ vs, Reps K (Fz H μ Ω) μ Ω.length [] vs ∧ SqT K H a vs := by
  obtain ⟨p, e, c⟩ := view0 r
  cases e
  exact ⟨[], Reps.nil, c⟩
/-- which kind of sequence it is -/
theorem seq_kind {d : D} {v : V} {xs : List D} (r : Rep K (Fz H μ Ω) μ Ω.length d v) (e : seqD d = some xs) : ∃ a, v = .ref a ∧
    ((∀ H' μ' Ω', Rep K (Fz H' μ' Ω') μ' Ω'.length d (.ref a) → ∃ vs, Reps K (Fz H' μ' Ω') μ' Ω'.length xs vs ∧ SqL K H' a vs) ∨
     (∀ H' μ' Ω', Rep K (Fz H' μ' Ω') μ' Ω'.length d (.ref a) → ∃ vs, Reps K (Fz H' μ' Ω') μ' Ω'.length xs vs ∧ SqT K H' a vs)) := by
  cases d with
  | lst ys => cases e; obtain ⟨p, vs, e1, _⟩ := view0 r; exact ⟨p, e1, .inl fun _ _ _ h => lst_sq h⟩
  | scr ys => cases e; obtain ⟨p, e1, _⟩ := view0 r; exact ⟨p, e1, .inl fun _ _ _ h => scr_sq h⟩
  | tup ys => cases e; obtain ⟨p, vs, e1, _⟩ := view0 r; exact ⟨p, e1, .inr fun _ _ _ h => tup_sq h⟩
  | e0 => cases e; obtain ⟨p, e1, _⟩ := view0 r; exact ⟨p, e1, .inr fun _ _ _ h => e0_sq h⟩
  | _ => cases e
theorem keyK_get : ∀ {kvs : List (Key × D)} {ws : List (Key × V)} {i : Nat} {k : Key} {v : V}, RepK K H μ n kvs ws → ws[i]? = some (k, v) → ∃ d, kvs[i]? = some (k, d) ∧ Rep K H μ n d v
  | [], ws, i, k, v, h, e => by simp only [RepK] at h; rw [h] at e; simp at e
  | (q, d) :: r, ws, 0, k, v, h, e => by
    simp only [RepK] at h
    obtain ⟨u, w', rfl, ru, rr⟩ := h
    simp at e
    obtain ⟨rfl, rfl⟩ := e
    exact ⟨d, rfl, ru⟩
  | (q, d) :: r, ws, i + 1, k, v, h, e => by
    simp only [RepK] at h
    obtain ⟨u, w', rfl, ru, rr⟩ := h
    exact keyK_get (i := i) rr (by simpa using e)
theorem keyT_get : ∀ {kvs : List (List Key × D)} {ws : List (List Key × V)} {i : Nat} {k : List Key} {v : V}, RepT K H μ n kvs ws → ws[i]? = some (k, v) → ∃ d, kvs[i]? = some (k, d) ∧ Rep K H μ n d v
  | [], ws, i, k, v, h, e => by simp only [RepT] at h; rw [h] at e; simp at e
  | (q, d) :: r, ws, 0, k, v, h, e => by
    simp only [RepT] at h
    obtain ⟨u, w', rfl, ru, rr⟩ := h
    simp at e
    obtain ⟨rfl, rfl⟩ := e
    exact ⟨d, rfl, ru⟩
  | (q, d) :: r, ws, i + 1, k, v, h, e => by
    simp only [RepT] at h
    obtain ⟨u, w', rfl, ru, rr⟩ := h
    exact keyT_get (i := i) rr (by simpa using e)
theorem keysR : ∀ (k : List Key), Reps K H μ n (k.map kD) (k.map kV)
  | [] => Reps.nil
  | q :: k => Reps.cons (kD_rep q) (keysR k)
theorem it_keys {kvs : List (Key × D)} {ws : List (Key × V)} {p : Addr} {od : Obj} (r : RepK K (Fz H μ Ω) μ Ω.length kvs ws) (hp : Fz H μ Ω p = some (.frz od (.dK ws))) : ItRep K (Itk p od ws) H μ Ω (kvs.map fun kv => kD kv.1) where
  stop := fun i H' μ' Ω' ex hi => ⟨Fz.le (ex.fz _ _ hp), by rw [r.length]; simpa using hi⟩
  go := fun i H' μ' Ω' ex hi => ⟨Fz.le (ex.fz _ _ hp), by rw [r.length]; simpa using hi⟩
  yld := fun i H' μ' Ω' v H'' d ex hd ⟨h1, k, u, h2, h3⟩ => by
    subst h1 h3
    obtain ⟨d', e1, _⟩ := keyK_get r h2
    rw [List.getElem?_map, e1] at hd
    cases hd
    exact same_yld ex.wf (kD_rep k)
theorem it_keysT {kvs : List (List Key × D)} {ws : List (List Key × V)} {p : Addr} {od : Obj} (hz : ∀ kv ∈ kvs, kv.1.length ≤ big) (r : RepT K (Fz H μ Ω) μ Ω.length kvs ws) (hp : Fz H μ Ω p = some (.frz od (.dT ws))) : ItRep K (Itkt p od ws) H μ Ω (kvs.map fun kv => .tup (kv.1.map kD)) where
  stop := fun i H' μ' Ω' ex hi => ⟨Fz.le (ex.fz _ _ hp), by rw [r.length]; simpa using hi⟩
  go := fun i H' μ' Ω' ex hi => ⟨Fz.le (ex.fz _ _ hp), by rw [r.length]; simpa using hi⟩
  yld := fun i H' μ' Ω' v H'' d ex hd ⟨h1, k, u, q, h2, h3, h4⟩ => by
    subst h1 h3
    obtain ⟨d', e1, _⟩ := keyT_get r h2
    have hm := List.mem_of_getElem? e1
    rw [List.getElem?_map, e1] at hd
    cases hd
    refine same_yld ex.wf ?_
    simp only [Rep]
    exact ⟨q, _, rfl, keysR k, by rw [List.length_map, ← big_eq]; exact hz _ hm, .inl (Fz.tup ex.wf h4)⟩
theorem it_vals {kvs : List (Key × D)} {ws : List (Key × V)} {p : Addr} {od : Obj} (r : RepK K (Fz H μ Ω) μ Ω.length kvs ws) (hp : Fz H μ Ω p = some (.frz od (.dK ws))) : ItRep K (Itd p od ws) H μ Ω (kvs.map fun kv => kv.2) where
  stop := fun i H' μ' Ω' ex hi => ⟨Fz.le (ex.fz _ _ hp), by rw [r.length]; simpa using hi⟩
  go := fun i H' μ' Ω' ex hi => ⟨Fz.le (ex.fz _ _ hp), by rw [r.length]; simpa using hi⟩
  yld := fun i H' μ' Ω' v H'' d ex hd ⟨h1, k, h2⟩ => by
    subst h1
    obtain ⟨d', e1, ru⟩ := keyK_get (RepK.tr ex.tr _ _ r) h2
    rw [List.getElem?_map, e1] at hd
    cases hd
    exact same_yld ex.wf ru
theorem new_yld {H' : Hp} {μ' : Mu} {Ω' : Sto} {T : Addr} {x y : D} {v u : V} (w : Wf K H' μ' Ω') (hT : H' T = none) (rx : Rep K (Fz H' μ' Ω') μ' Ω'.length x v) (ry : Rep K (Fz H' μ' Ω') μ' Ω'.length y u) :
    (∀ a o, H' a = some o → upd H' T (.tup [v, u]) a = some o) ∧ Ext K H' μ' Ω' (upd H' T (.tup [v, u])) μ' Ω' ∧ Rep K (Fz (upd H' T (.tup [v, u])) μ' Ω') μ' Ω'.length (.tup [x, y]) (.ref T) := by
  obtain ⟨e, rp⟩ := res_tup (p := T) w (Reps.cons rx (Reps.one ry)) (by rw [← big_eq]; exact Nat.le_of_ble_eq_true rfl) hT
  exact ⟨fun a o h => by rw [upd_ne (ne_of_none h hT)]; exact h, e, rp⟩
theorem it_items {kvs : List (Key × D)} {ws : List (Key × V)} {p : Addr} {od : Obj} (r : RepK K (Fz H μ Ω) μ Ω.length kvs ws) (hp : Fz H μ Ω p = some (.frz od (.dK ws))) : ItRep K (Iti p od ws) H μ Ω (kvs.map fun kv => .tup [kD kv.1, kv.2]) where
  stop := fun i H' μ' Ω' ex hi => ⟨Fz.le (ex.fz _ _ hp), by rw [r.length]; simpa using hi⟩
  go := fun i H' μ' Ω' ex hi => ⟨Fz.le (ex.fz _ _ hp), by rw [r.length]; simpa using hi⟩
  yld := fun i H' μ' Ω' v H'' d ex hd ⟨T, k, u, h1, h2, h3, h4⟩ => by
    subst h2 h4
    obtain ⟨d', e1, ru⟩ := keyK_get (RepK.tr ex.tr _ _ r) h1
    rw [List.getElem?_map, e1] at hd
    cases hd
    exact new_yld ex.wf h3 (kD_rep k) ru
theorem it_enum {d : D} {a : Addr} {xs : List D} (r : Rep K (Fz H μ Ω) μ Ω.length d (.ref a)) (hl : ∀ H' μ' Ω', Rep K (Fz H' μ' Ω') μ' Ω'.length d (.ref a) → ∃ vs, Reps K (Fz H' μ' Ω') μ' Ω'.length xs vs ∧ SqL K H' a vs) :
    ItRep K (Ite K a) H μ Ω (xs.zipIdx.map fun p => .tup [.int p.2, p.1]) where
  stop := fun i H' μ' Ω' ex hi => by
    obtain ⟨vs, rs, sq⟩ := hl _ _ _ (Rep.tr ex.tr _ _ r)
    exact ⟨vs, sq, by rw [rs.length]; simpa using hi⟩
  go := fun i H' μ' Ω' ex hi => by
    obtain ⟨vs, rs, sq⟩ := hl _ _ _ (Rep.tr ex.tr _ _ r)
    have hi : i < xs.length := by simpa using hi
    obtain ⟨v, e1, _⟩ := rs.get (List.getElem?_eq_getElem hi)
    exact ⟨vs, v, sq, e1⟩
  yld := fun i H' μ' Ω' v H'' d' ex hd ⟨T, x, h1, h2, h3, h4⟩ => by
    subst h1 h3
    obtain ⟨vs, rs, sq⟩ := hl _ _ _ (Rep.tr ex.tr _ _ r)
    have e4 := h4 vs sq
    rw [List.getElem?_map, List.getElem?_zipIdx] at hd
    cases e5 : xs[i]? with
    | none => rw [e5] at hd; cases hd
    | some y =>
      rw [e5] at hd
      obtain ⟨u, e6, ru⟩ := rs.get e5
      rw [e4] at e6
      cases e6
      have hd : D.tup [.int ((0 + i : Nat) : Int), y] = d' := Option.some.inj hd
      subst hd
      rw [Nat.zero_add]
      exact new_yld ex.wf h2 (by simp only [Rep]) ru
theorem zip_get : ∀ {xs ys : List D} {i : Nat} {d : D}, (List.zipWith (fun x y => D.tup [x, y]) xs ys)[i]? = some d → ∃ x y, xs[i]? = some x ∧ ys[i]? = some y ∧ d = .tup [x, y] := by
  intro xs ys i d h
  rw [List.getElem?_zipWith] at h
  cases e1 : xs[i]? with
  | none => rw [e1] at h; simp at h
  | some x =>
    cases e2 : ys[i]? with
    | none => rw [e1, e2] at h; simp at h
    | some y => rw [e1, e2] at h; simp at h; exact ⟨x, y, rfl, rfl, h.symm⟩
theorem it_zip {d1 d2 : D} {a b : Addr} {xs ys : List D} (r1 : Rep K (Fz H μ Ω) μ Ω.length d1 (.ref a)) (r2 : Rep K (Fz H μ Ω) μ Ω.length d2 (.ref b))
    (l1 : ∀ H' μ' Ω', Rep K (Fz H' μ' Ω') μ' Ω'.length d1 (.ref a) → ∃ vs, Reps K (Fz H' μ' Ω') μ' Ω'.length xs vs ∧ SqL K H' a vs) (l2 : ∀ H' μ' Ω', Rep K (Fz H' μ' Ω') μ' Ω'.length d2 (.ref b) → ∃ vs, Reps K (Fz H' μ' Ω') μ' Ω'.length ys vs ∧ SqL K H' b vs) :
    ItRep K (Itz K a b) H μ Ω (List.zipWith (fun x y => .tup [x, y]) xs ys) where
  stop := fun i H' μ' Ω' ex hi => by
    obtain ⟨vs, rs, sq⟩ := l1 _ _ _ (Rep.tr ex.tr _ _ r1)
    obtain ⟨us, rt, st⟩ := l2 _ _ _ (Rep.tr ex.tr _ _ r2)
    refine ⟨vs, us, sq, st, ?_⟩
    rw [List.length_zipWith] at hi
    rw [rs.length, rt.length]
    omega
  go := fun i H' μ' Ω' ex hi => by
    obtain ⟨vs, rs, sq⟩ := l1 _ _ _ (Rep.tr ex.tr _ _ r1)
    obtain ⟨us, rt, st⟩ := l2 _ _ _ (Rep.tr ex.tr _ _ r2)
    rw [List.length_zipWith] at hi
    obtain ⟨v, e1, _⟩ := rs.get (List.getElem?_eq_getElem (show i < xs.length by omega))
    obtain ⟨u, e2, _⟩ := rt.get (List.getElem?_eq_getElem (show i < ys.length by omega))
    exact ⟨vs, us, v, u, sq, st, e1, e2⟩
  yld := fun i H' μ' Ω' v H'' d' ex hd ⟨T, x, y, h1, h2, h3, h4, h5⟩ => by
    subst h1 h3
    obtain ⟨vs, rs, sq⟩ := l1 _ _ _ (Rep.tr ex.tr _ _ r1)
    obtain ⟨us, rt, st⟩ := l2 _ _ _ (Rep.tr ex.tr _ _ r2)
    obtain ⟨p, q, e1, e2, rfl⟩ := zip_get hd
    obtain ⟨v1, e3, r3⟩ := rs.get e1
    obtain ⟨v2, e4, r4⟩ := rt.get e2
    rw [h4 vs sq] at e3
    rw [h5 us st] at e4
    cases e3
    cases e4
    exact new_yld ex.wf h2 r3 r4
theorem it_zipT {d1 d2 : D} {a b : Addr} {xs ys : List D} (r1 : Rep K (Fz H μ Ω) μ Ω.length d1 (.ref a)) (r2 : Rep K (Fz H μ Ω) μ Ω.length d2 (.ref b))
    (l1 : ∀ H' μ' Ω', Rep K (Fz H' μ' Ω') μ' Ω'.length d1 (.ref a) → ∃ vs, Reps K (Fz H' μ' Ω') μ' Ω'.length xs vs ∧ SqT K H' a vs) (l2 : ∀ H' μ' Ω', Rep K (Fz H' μ' Ω') μ' Ω'.length d2 (.ref b) → ∃ vs, Reps K (Fz H' μ' Ω') μ' Ω'.length ys vs ∧ SqT K H' b vs) :
    ItRep K (RZ.ItzT K a b) H μ Ω (List.zipWith (fun x y => .tup [x, y]) xs ys) where
  stop := fun i H' μ' Ω' ex hi => by
    obtain ⟨vs, rs, sq⟩ := l1 _ _ _ (Rep.tr ex.tr _ _ r1)
    obtain ⟨us, rt, st⟩ := l2 _ _ _ (Rep.tr ex.tr _ _ r2)
    refine ⟨vs, us, sq, st, ?_⟩
    rw [List.length_zipWith] at hi
    rw [rs.length, rt.length]
    omega
  go := fun i H' μ' Ω' ex hi => by
    obtain ⟨vs, rs, sq⟩ := l1 _ _ _ (Rep.tr ex.tr _ _ r1)
    obtain ⟨us, rt, st⟩ := l2 _ _ _ (Rep.tr ex.tr _ _ r2)
    rw [List.length_zipWith] at hi
    obtain ⟨v, e1, _⟩ := rs.get (List.getElem?_eq_getElem (show i < xs.length by omega))
    obtain ⟨u, e2, _⟩ := rt.get (List.getElem?_eq_getElem (show i < ys.length by omega))
    exact ⟨vs, us, v, u, sq, st, e1, e2⟩
  yld := fun i H' μ' Ω' v H'' d' ex hd ⟨T, x, y, h1, h2, h3, h4, h5⟩ => by
    subst h1 h3
    obtain ⟨vs, rs, sq⟩ := l1 _ _ _ (Rep.tr ex.tr _ _ r1)
    obtain ⟨us, rt, st⟩ := l2 _ _ _ (Rep.tr ex.tr _ _ r2)
    obtain ⟨p, q, e1, e2, rfl⟩ := zip_get hd
    obtain ⟨v1, e3, r3⟩ := rs.get e1
    obtain ⟨v2, e4, r4⟩ := rt.get e2
    rw [h4 vs sq] at e3
    rw [h5 us st] at e4
    cases e3
    cases e4
    exact new_yld ex.wf h2 r3 r4
theorem it_rng {lo : Int} {n : Nat} : ItRep K (Itr lo n) H μ Ω ((List.range n).map fun (k : Nat) => .int (lo + (k : Int))) where
  stop := fun i H' μ' Ω' ex hi => by
    show n ≤ i
    simpa using hi
  go := fun i H' μ' Ω' ex hi => by
    show i < n
    simpa using hi
  yld := fun i H' μ' Ω' v H'' d ex hd ⟨h1, h2⟩ => by
    subst h1 h2
    rw [List.getElem?_map] at hd
    cases e : (List.range n)[i]? with
    | none => rw [e] at hd; cases hd
    | some j =>
      rw [e] at hd
      have e2 := List.getElem?_eq_some_iff.mp e
      obtain ⟨hl, e3⟩ := e2
      rw [List.getElem_range] at e3
      subst e3
      cases hd
      exact same_yld ex.wf (by simp only [Rep])
theorem it_str {s : Str} : ItRep K (Its s) H μ Ω (s.cps.toList.map fun c => .str ⟨#[c]⟩) where
  stop := fun i H' μ' Ω' ex hi => by
    show s.cps.size ≤ i
    simpa using hi
  go := fun i H' μ' Ω' ex hi => by
    show i < s.cps.size
    simpa using hi
  yld := fun i H' μ' Ω' v H'' d ex hd ⟨h1, c, h2, h3⟩ => by
    subst h1 h3
    rw [List.getElem?_map, Array.getElem?_toList, h2] at hd
    cases hd
    exact same_yld ex.wf (by simp only [Rep])
end
end Rf
end
section
namespace Rf
open PySem L2
def Tg.all : Tg → List Nat
  | .nm i => [i]
  | .tp is => is
theorem wipe_set {σ : St} {i : Nat} {v : Option V} : ∀ {is : List Nat}, i ∈ is → wipe (σ.set i v) is = wipe σ is
  | j :: is, h => by
    show (wipe (σ.set i v) is).set j none = (wipe σ is).set j none
    by_cases hi : i ∈ is
    · rw [wipe_set hi]
    · have hj : i = j := by
        rcases List.mem_cons.mp h with e | e
        · exact e
        · exact absurd e hi
      subst hj
      apply List.ext_getElem?
      intro n
      by_cases hn : n = i
      · subst hn
        by_cases hl : n < σ.length
        · rw [List.getElem?_set_self (by rw [wipe_length, List.length_set]; exact hl), List.getElem?_set_self (by rw [wipe_length]; exact hl)]
        · rw [List.getElem?_eq_none (by rw [List.length_set, wipe_length, List.length_set]; omega), List.getElem?_eq_none (by rw [List.length_set, wipe_length]; omega)]
      · rw [List.getElem?_set_ne (Ne.symm hn), List.getElem?_set_ne (Ne.symm hn)]
        have key : ∀ js : List Nat, (wipe (σ.set i v) js)[n]? = (wipe σ js)[n]? := by
          intro js
          induction js with
          | nil => show (σ.set i v)[n]? = σ[n]?; rw [List.getElem?_set_ne (Ne.symm hn)]
          | cons q js ih =>
            show ((wipe (σ.set i v) js).set q none)[n]? = ((wipe σ js).set q none)[n]?
            by_cases hq : q = n
            · subst hq
              by_cases hl : q < σ.length
              · rw [List.getElem?_set_self (by rw [wipe_length, List.length_set]; exact hl), List.getElem?_set_self (by rw [wipe_length]; exact hl)]
              · rw [List.getElem?_eq_none (by rw [List.length_set, wipe_length, List.length_set]; omega), List.getElem?_eq_none (by rw [List.length_set, wipe_length]; omega)]
            · rw [List.getElem?_set_ne hq, List.getElem?_set_ne hq]; exact ih
        exact key is
  | [], h => by cases h
theorem setAll_len : ∀ {is : List Nat} {ds : List D} {ρ ρ' : Env}, setAll is ds ρ = some ρ' → ds.length = is.length
  | [], [], _, _, _ => rfl
  | i :: is, d :: ds, ρ, ρ', e => by
    rw [List.length_cons, List.length_cons, setAll_len (is := is) (ds := ds) e]
  | [], _ :: _, _, _, e => by cases e
  | _ :: _, [], _, _, e => by cases e
section
variable {X : Cx} {W : WX} {ft : FT} {pos p : Pos} {l r m tg : Expr} {a b c : E} {es rest : List Expr} {el : EL}
theorem src1 {a : E} {f : D → Sto → R (List D)} {K : Frg} {σ : St} {H : Hp} {μ : Mu} {Ω : Sto} {ρ : Env} {Q : It → Hp → Prop} (at_ : At K σ H μ Ω ρ) (p : Post K (rI K) W σ H μ Ω ((evE ft a ρ Ω).bind f) Q) :
    TEv K W ft a σ H fun v H1 => ∃ μ1 Ω1 x, At K σ H1 μ1 Ω1 ρ ∧ Rep K (Fz H1 μ1 Ω1) μ1 Ω1.length x v ∧ Post K (rI K) W σ H1 μ1 Ω1 (f x Ω1) Q := by
  refine ⟨μ, Ω, ρ, at_, (Post.bind (rel := rD K) p).mono ?_⟩
  rintro v H1 ⟨μ1, Ω1, x, _, ex1, r1, p1⟩
  exact ⟨μ1, Ω1, x, at_.ext ex1, r1, p1⟩
theorem optI {K : Frg} {σ : St} {H : Hp} {μ : Mu} {Ω : Sto} {o : Option (List D)} {Q : It → Hp → Prop} (p : Post K (rI K) W σ H μ Ω (opt o Ω) Q) : ∃ xs, o = some xs ∧ ∀ J H', Ext K H μ Ω H' μ Ω → ItRep K J H' μ Ω xs → Q J H' := by
  cases o with
  | none => exact False.elim p
  | some xs => exact ⟨xs, rfl, fun J H' ex h => p J H' μ ex h⟩
/-- the value is known ahead of the run -/
theorem src_case {K : Frg} {σ : St} {H : Hp} {a : E} {f : D → Option (List D)} {R : It → Hp → Prop} (h : ∃ μ Ω ρ, At K σ H μ Ω ρ ∧ Post K (rI K) W σ H μ Ω ((evE ft a ρ Ω).bind fun d Ω => opt (f d) Ω) R) :
    (∀ Q, TEv K W ft a σ H Q) ∨ ∃ x xs, f x = some xs ∧ ∀ Q : VK, (∀ v H1 μ1 Ω1, Wf K H1 μ1 Ω1 → Rep K (Fz H1 μ1 Ω1) μ1 Ω1.length x v → (∀ J, ItRep K J H1 μ1 Ω1 xs → R J H1) → Q v H1) → TEv K W ft a σ H Q := by
  obtain ⟨μ, Ω, ρ, at_, p⟩ := h
  cases e : evE ft a ρ Ω with
  | bad => rw [e] at p; exact False.elim p
  | ex x Ω1 => exact .inl fun Q => ⟨μ, Ω, ρ, at_, by rw [e] at p ⊢; exact p⟩
  | ok x Ω1 =>
    rw [e] at p
    have p : Post K (rI K) W σ H μ Ω (opt (f x) Ω1) R := p
    cases e2 : f x with
    | none => rw [e2] at p; exact False.elim p
    | some xs =>
      rw [e2] at p
      refine .inr ⟨x, xs, e2, fun Q hq => ⟨μ, Ω, ρ, at_, ?_⟩⟩
      rw [e]
      exact fun v H1 μ1 ex1 r1 => hq v H1 μ1 Ω1 ex1.wf r1 fun J hJ => p J H1 μ1 ex1 hJ
theorem i_val {σ : St} {H : Hp} {R : It → Hp → Prop} (h : TIv X.K W ft (.val a) σ H R) :
    iList X.K (TEv X.K W ft a) σ H R ∨ iTup X.K (TEv X.K W ft a) σ H R ∨ iKeys (TEv X.K W ft a) σ H R ∨ iStr (TEv X.K W ft a) σ H R := by
  rcases src_case h with h | ⟨x, xs, e, k⟩
  · exact .inl (h _)
  have seq : seqD x = some xs → iList X.K (TEv X.K W ft a) σ H R ∨ iTup X.K (TEv X.K W ft a) σ H R ∨ iKeys (TEv X.K W ft a) σ H R ∨ iStr (TEv X.K W ft a) σ H R := fun es => by
    have both : (∀ {K : Frg} {H μ Ω} q, Rep K (Fz H μ Ω) μ Ω.length x (.ref q) → ∃ vs, Reps K (Fz H μ Ω) μ Ω.length xs vs ∧ SqL K H q vs) ∨ (∀ {K : Frg} {H μ Ω} q, Rep K (Fz H μ Ω) μ Ω.length x (.ref q) → ∃ vs, Reps K (Fz H μ Ω) μ Ω.length xs vs ∧ SqT K H q vs) := by
      cases x with
      | lst ys => cases es; exact .inl fun _ h => lst_sq h
      | scr ys => cases es; exact .inl fun _ h => scr_sq h
      | tup ys => cases es; exact .inr fun _ h => tup_sq h
      | e0 => cases es; exact .inr fun _ h => e0_sq h
      | _ => cases es
    rcases both with hl | ht
    · refine .inl (k _ fun v H1 μ1 Ω1 w r1 q => ?_)
      obtain ⟨b, rfl, _⟩ := seq_kind r1 es
      obtain ⟨vs, _, sq⟩ := hl b r1
      exact ⟨b, rfl, ⟨vs, sq⟩, q _ (it_list r1 es fun _ _ _ h => hl b h)⟩
    · refine .inr (.inl (k _ fun v H1 μ1 Ω1 w r1 q => ?_))
      obtain ⟨b, rfl, _⟩ := seq_kind r1 es
      obtain ⟨vs, _, sq⟩ := ht b r1
      exact ⟨b, rfl, ⟨vs, sq⟩, q _ (it_tup r1 es fun _ _ _ h => ht b h)⟩
  cases x with
  | lst ys => exact seq e
  | tup ys => exact seq e
  | e0 => exact seq e
  | scr ys => exact seq e
  | dk kvs =>
    cases e
    refine .inr (.inr (.inl (k _ fun v H1 μ1 Ω1 w r1 q => ?_)))
    simp only [Rep] at r1
    obtain ⟨b, ws, od, rfl, rk, hq⟩ := r1
    exact ⟨b, od, rfl, .inl ⟨ws, Fz.le hq, q _ (it_keys rk hq)⟩⟩
  | dt kvs =>
    have e : (if kvs.all (fun kv => decide (kv.1.length ≤ big)) = true then some (kvs.map fun kv => D.tup (kv.1.map kD)) else none) = some xs := e
    obtain ⟨hz, rfl⟩ := opt_if e
    refine .inr (.inr (.inl (k _ fun v H1 μ1 Ω1 w r1 q => ?_)))
    simp only [Rep] at r1
    obtain ⟨b, ws, od, rfl, rk, hq⟩ := r1
    exact ⟨b, od, rfl, .inr ⟨ws, Fz.le hq, q _ (it_keysT (fun kv hm => of_decide_eq_true (List.all_eq_true.mp hz kv hm)) rk hq)⟩⟩
  | str s =>
    cases e
    refine .inr (.inr (.inr (k _ fun v H1 μ1 Ω1 w r1 q => ?_)))
    simp only [Rep] at r1
    exact ⟨s, r1, q _ it_str⟩
  | _ => cases e
/-- a source that is a value -/
theorem s_val (ha : PE X l (TEv X.K W ft a)) : PI X tg l (TIv X.K W ft (.val a)) := ((pi_list ha).or ((pi_tup ha).or ((pi_keys ha).or (pi_str ha)))).imp fun _ _ _ h => i_val h
theorem s_items {tes : List Expr} {kk : Nat} {tpos apos : Pos} (hb : noSup l = true) (hl : (apos.endLine == pos.line) = true) (ha : PE X l (TEv X.K W ft a)) : PI X (.Tuple tes kk tpos) (.Call (.Attribute l "items" apos) [] [] pos) (TIv X.K W ft (.items a)) := by
  refine (pi_items ha (base_ok hb) hl).imp fun σ H R h => ?_
  rcases src_case h with h | ⟨x, xs, e, k⟩
  · exact h _
  cases x with
  | dk kvs =>
    cases e
    refine k _ fun v H1 μ1 Ω1 w r1 q => ?_
    simp only [Rep] at r1
    obtain ⟨b, ws, od, rfl, rk, hq⟩ := r1
    exact ⟨b, od, ws, rfl, Fz.le hq, q _ (it_items rk hq)⟩
  | _ => cases e
theorem s_vals {apos : Pos} (hb : noSup l = true) (hl : (apos.endLine == pos.line) = true) (ha : PE X l (TEv X.K W ft a)) : PI X tg (.Call (.Attribute l "values" apos) [] [] pos) (TIv X.K W ft (.vals a)) := by
  refine (pi_values ha (base_ok hb) hl).imp fun σ H R h => ?_
  rcases src_case h with h | ⟨x, xs, e, k⟩
  · exact h _
  cases x with
  | dk kvs =>
    cases e
    refine k _ fun v H1 μ1 Ω1 w r1 q => ?_
    simp only [Rep] at r1
    obtain ⟨b, ws, od, rfl, rk, hq⟩ := r1
    exact ⟨b, od, ws, rfl, Fz.le hq, q _ (it_vals rk hq)⟩
  | _ => cases e
theorem s_zip {tes : List Expr} {kk : Nat} {tpos : Pos} (hg : Gl X "zip") (hm : X.mg "zip" = none) (hp : plainE l = true) (hq : plainE r = true) (ha : PE X l (TEv X.K W ft a)) (hb : PE X r (TEv X.K W ft b)) : PI X (.Tuple tes kk tpos) (.Call (.Name "zip" p) [l, r] [] pos) (TIv X.K W ft (.zip a b)) := by
  refine (RZ.pi_zipA hg hm (pa_cons ha (pa_cons hb pa_nil (star_cons hq)) (star_cons hp)) (star_cons hp) (back_any (by simp [hq]))).imp fun σ H R ⟨μ, Ω, ρ, at_, p⟩ => ?_
  obtain ⟨μ0, Ω0, ρ0, a0, p0⟩ := src1 at_ p
  refine ⟨μ0, Ω0, ρ0, a0, p0.mono ?_⟩
  rintro v H1 ⟨μ1, Ω1, x, a1, r1, p1⟩
  refine ⟨μ1, Ω1, ρ, a1, (Post.bind (rel := rD X.K) p1).mono ?_⟩
  rintro u H2 ⟨μ2, Ω2, y, _, ex2, r2, p2⟩
  obtain ⟨xs, e, k⟩ := optI p2
  have r1' := Rep.tr ex2.tr _ _ r1
  have one : ∀ {d : D} {v : V} {zs : List D}, Rep X.K (Fz H2 μ2 Ω2) μ2 Ω2.length d v → lstD d = some zs → ∃ b, v = .ref b ∧ ∀ H' μ' Ω', Rep X.K (Fz H' μ' Ω') μ' Ω'.length d (.ref b) → ∃ vs, Reps X.K (Fz H' μ' Ω') μ' Ω'.length zs vs ∧ SqL X.K H' b vs := fun {d v zs} rd ed => by
    cases d with
    | lst ys => cases ed; obtain ⟨p, vs, e1, _⟩ := view0 rd; exact ⟨p, e1, fun _ _ _ h => lst_sq h⟩
    | scr ys => cases ed; obtain ⟨p, e1, _⟩ := view0 rd; exact ⟨p, e1, fun _ _ _ h => scr_sq h⟩
    | _ => cases ed
  have two : ∀ {d : D} {v : V} {zs : List D}, Rep X.K (Fz H2 μ2 Ω2) μ2 Ω2.length d v → tupD d = some zs → ∃ b, v = .ref b ∧ ∀ H' μ' Ω', Rep X.K (Fz H' μ' Ω') μ' Ω'.length d (.ref b) → ∃ vs, Reps X.K (Fz H' μ' Ω') μ' Ω'.length zs vs ∧ SqT X.K H' b vs := fun {d v zs} rd ed => by
    cases d with
    | tup ys => cases ed; obtain ⟨p, vs, e1, _⟩ := view0 rd; exact ⟨p, e1, fun _ _ _ h => tup_sq h⟩
    | e0 => cases ed; obtain ⟨p, e1, _⟩ := view0 rd; exact ⟨p, e1, fun _ _ _ h => e0_sq h⟩
    | _ => cases ed
  have fin2 : ∀ {zs ys : List D}, tupD x = some zs → tupD y = some ys → xs = List.zipWith (fun x y => .tup [x, y]) zs ys → ∃ a b xs ys, [v, u] = [V.ref a, V.ref b] ∧ ((SqL X.K H2 a xs ∧ SqL X.K H2 b ys ∧ R (Itz X.K a b) H2) ∨ (SqT X.K H2 a xs ∧ SqT X.K H2 b ys ∧ R (RZ.ItzT X.K a b) H2)) := fun {zs ys} e1 e2 e3 => by
    obtain ⟨b1, rfl, l1⟩ := two r1' e1
    obtain ⟨b2, rfl, l2⟩ := two r2 e2
    obtain ⟨vs, _, s1⟩ := l1 _ _ _ r1'
    obtain ⟨us, _, s2⟩ := l2 _ _ _ r2
    subst e3
    exact ⟨b1, b2, vs, us, rfl, .inr ⟨s1, s2, k _ _ (Ext.refl ex2.wf) (it_zipT r1' r2 l1 l2)⟩⟩
  unfold zipD2 at e
  cases e1 : lstD x with
  | none =>
    rw [e1] at e
    simp only at e
    cases e3 : tupD x with
    | none => rw [e3] at e; cases e
    | some zs =>
      cases e4 : tupD y with
      | none => rw [e3, e4] at e; cases e
      | some ys =>
        rw [e3, e4] at e
        exact fin2 e3 e4 (Option.some.inj e).symm
  | some zs =>
    cases e2 : lstD y with
    | none =>
      rw [e1, e2] at e
      simp only at e
      cases e3 : tupD x with
      | none => rw [e3] at e; cases e
      | some zs =>
        cases e4 : tupD y with
        | none => rw [e3, e4] at e; cases e
        | some ys =>
          rw [e3, e4] at e
          exact fin2 e3 e4 (Option.some.inj e).symm
    | some ys =>
      rw [e1, e2] at e
      cases e
      obtain ⟨b1, rfl, l1⟩ := one r1' e1
      obtain ⟨b2, rfl, l2⟩ := one r2 e2
      obtain ⟨vs, _, s1⟩ := l1 _ _ _ r1'
      obtain ⟨us, _, s2⟩ := l2 _ _ _ r2
      exact ⟨b1, b2, vs, us, rfl, .inl ⟨s1, s2, k _ _ (Ext.refl ex2.wf) (it_zip r1' r2 l1 l2)⟩⟩
theorem inR_of {i : Int} (h : inR i = true) : -(2 ^ 62) ≤ i ∧ i < 2 ^ 62 := by
  cases i with
  | ofNat n => have := of_decide_eq_true h; simp only [Int.ofNat_eq_natCast]; omega
  | negSucc n => have := of_decide_eq_true h; rw [Int.negSucc_eq]; omega
theorem inR_mk {i : Int} (h : -(2 ^ 62) ≤ i) (h' : i < 2 ^ 62) : inR i = true := by
  cases i with
  | ofNat n => simp only [Int.ofNat_eq_natCast] at h h'; exact decide_eq_true (by omega)
  | negSucc n => rw [Int.negSucc_eq] at h h'; exact decide_eq_true (by omega)
theorem s_rng (hg : Gl X "range") (hm : X.mg "range" = none) (hp : plainE l = true) (ha : PE X l (TEv X.K W ft a)) : PI X tg (.Call (.Name "range" p) [l] [] pos) (TIv X.K W ft (.rng a)) := by
  refine (pi_range1 hg hm (pa_cons ha pa_nil (star_cons hp)) (star_cons hp)).imp fun σ H R ⟨μ, Ω, ρ, at_, p⟩ => ?_
  obtain ⟨μ0, Ω0, ρ0, a0, p0⟩ := src1 at_ p
  refine ⟨μ0, Ω0, ρ0, a0, p0.mono ?_⟩
  rintro v H1 ⟨μ1, Ω1, x, a1, r1, p1⟩
  cases x with
  | int j =>
    by_cases hj : inR j = true
    · simp only [if_pos hj] at p1
      have e := view_int r1
      subst e
      refine ⟨j, rfl, (inR_of hj).1, (inR_of hj).2, p1 _ _ _ (Ext.refl a1.wf) ?_⟩
      have := it_rng (K := X.K) (H := H1) (μ := μ1) (Ω := Ω1) (lo := 0) (n := j.toNat)
      simpa [rI, rngD] using this
    · simp only [if_neg hj] at p1; exact False.elim p1
  | _ => exact False.elim p1
theorem s_rng2 (hg : Gl X "range") (hm : X.mg "range" = none) (hp : plainE l = true) (hq : plainE r = true) (ha : PE X l (TEv X.K W ft a)) (hb : PE X r (TEv X.K W ft b)) : PI X tg (.Call (.Name "range" p) [l, r] [] pos) (TIv X.K W ft (.rng2 a b)) := by
  refine (pi_range2 hg hm (pa_cons ha (pa_cons hb pa_nil (star_cons hq)) (star_cons hp)) (by rw [star_cons hp, star_cons hq]; rfl) (star_cons hq)).imp fun σ H R ⟨μ, Ω, ρ, at_, p⟩ => ?_
  obtain ⟨μ0, Ω0, ρ0, a0, p0⟩ := src1 at_ p
  refine ⟨μ0, Ω0, ρ0, a0, p0.mono ?_⟩
  rintro v H1 ⟨μ1, Ω1, x, a1, r1, p1⟩
  refine ⟨μ1, Ω1, ρ, a1, (Post.bind (rel := rD X.K) p1).mono ?_⟩
  rintro u H2 ⟨μ2, Ω2, y, _, ex2, r2, p2⟩
  cases x with
  | int i =>
    cases y with
    | int j =>
      by_cases hj : (inR i && inR j) = true
      · simp only [if_pos hj] at p2
        rw [Bool.and_eq_true] at hj
        have e := view_int r1
        have e2 := view_int r2
        subst e e2
        exact ⟨i, j, rfl, ⟨(inR_of hj.1).1, (inR_of hj.1).2, (inR_of hj.2).1, (inR_of hj.2).2⟩, p2 _ _ _ (Ext.refl ex2.wf) it_rng⟩
      · simp only [if_neg hj] at p2; exact False.elim p2
    | _ => exact False.elim p2
  | _ => cases y <;> exact False.elim p2
/-! ### targets -/
def gT : List Nat → TGs
  | [] => gNil
  | i :: is => gCons (gName i) (gT is)
def TgN (X : Cx) (i : Nat) (x : Str) : Prop := X.N[i]? = some x ∧ Loc X.env.scope x ∧ (X.fn x = true ∨ X.env.scope.names.lookup x = some .local)
theorem pgs_tp (hN : X.N.Nodup) : ∀ {is : List Nat} {es : List Expr}, Paired (fun i e => ∃ x q, e = Expr.Name x q ∧ TgN X i x) is es → PGs X es (gT is) ∧ (assignEach es X.env).length = is.length ∧ (assignEach es X.env).findIdx? (·.1) = none
  | _, _, .nil => ⟨pgs_nil, rfl, rfl⟩
  | i :: is, _, .cons ⟨x, q, e, h1, h2, h3⟩ r => by
    subst e
    obtain ⟨a1, a2, a3⟩ := pgs_tp hN r
    refine ⟨pgs_cons (pg_name hN h1 h2 h3) a1 rfl, ?_, ?_⟩
    · show (assignEach _ X.env).length + 1 = _
      rw [a2]; rfl
    · show List.findIdx? _ ((false, _) :: assignEach _ X.env) = none
      rw [List.findIdx?_cons]
      simp only [Bool.false_eq_true, if_false]
      rw [a3]
      rfl
def TGv (K : Frg) : Tg → TG
  | .nm i => gName i
  | .tp is => gTup K is.length (gT is)
inductive TgOk (X : Cx) : Tg → Expr → Prop where
  | nm {i : Nat} {x : Str} {q : Pos} (h : TgN X i x) : TgOk X (.nm i) (.Name x q)
  | tp {is : List Nat} {es : List Expr} {k : Nat} {q : Pos} (h : Paired (fun i e => ∃ x q, e = Expr.Name x q ∧ TgN X i x) is es) : TgOk X (.tp is) (.Tuple es k q)
theorem s_tg (hc : X.calm = true) (hN : X.N.Nodup) {t : Tg} {e : Expr} (h : TgOk X t e) : PG X e (TGv X.K t) := by
  cases h with
  | nm h => exact pg_name hN h.1 h.2.1 h.2.2
  | tp h =>
    obtain ⟨a1, a2, a3⟩ := pgs_tp hN h
    exact pg_tup hc a1 a2 a3
theorem set_tp {K : Frg} {H : Hp} {μ : Mu} {Ω : Sto} {Q : St → Hp → Prop} : ∀ {is : List Nat} {ds : List D} {vs : List V} {ρ ρ' : Env} {σ : St}, setAll is ds ρ = some ρ' → Reps K (Fz H μ Ω) μ Ω.length ds vs → REnv K (Fz H μ Ω) μ Ω.length ρ σ →
    (∀ σ', REnv K (Fz H μ Ω) μ Ω.length ρ' σ' → (∀ is', (∀ i ∈ is, i ∈ is') → wipe σ' is' = wipe σ is') → Q σ' H) → gT is vs σ H Q
  | [], [], vs, ρ, ρ', σ, e, r, re, k => by
    cases e
    simp only [Reps] at r
    exact ⟨r, k σ re fun _ _ => rfl⟩
  | i :: is, d :: ds, vs, ρ, ρ', σ, e, r, re, k => by
    simp only [Reps] at r
    obtain ⟨v, ws, rfl, rv, rs⟩ := r
    refine ⟨v, ws, rfl, ?_⟩
    refine set_tp (is := is) (ds := ds) e rs (re.set i rv) fun σ' re' hw => k σ' re' fun is' his => ?_
    rw [hw is' fun j hj => his j (List.mem_cons_of_mem _ hj)]
    exact wipe_set (his i (List.mem_cons_self ..))
  | [], _ :: _, _, _, _, _, e, _, _, _ => by cases e
  | _ :: _, [], _, _, _, _, e, _, _, _ => by cases e
/-- a target takes what comes -/
theorem bind_tg {K : Frg} {H : Hp} {μ : Mu} {Ω : Sto} {t : Tg} {d : D} {v : V} {ρ ρ' : Env} {σ : St} {Q : St → Hp → Prop} (e : bindT t d ρ = some ρ') (r : Rep K (Fz H μ Ω) μ Ω.length d v) (re : REnv K (Fz H μ Ω) μ Ω.length ρ σ)
    (k : ∀ σ', REnv K (Fz H μ Ω) μ Ω.length ρ' σ' → (∀ is', (∀ i ∈ t.all, i ∈ is') → wipe σ' is' = wipe σ is') → Q σ' H) : TGv K t v σ H Q := by
  cases t with
  | nm i =>
    cases e
    exact k _ (re.set i r) fun is' h => wipe_set (h i (List.mem_singleton.mpr rfl))
  | tp is =>
    cases d with
    | tup ds =>
      obtain ⟨p, vs, rfl, rs, _, c, _⟩ := view0 r
      refine ⟨p, vs, rfl, c, ?_, set_tp e rs re k⟩
      rw [rs.length]
      exact setAll_len e
    | _ => cases e
end
end Rf
end
section
namespace Rf
open PySem L2
/-! ### comprehensions -/
/-- nothing may be raised -/
def WF : WX := fun _ _ _ _ => False
abbrev Blk (X : Cx) (scope : Scope) (P : Cx → Prop) : Prop := ∀ (s : Shared) (H : Hp) (C : Addr) (cl : List (Str × Addr)) (fp : List Addr), P (X.blk s H scope (compEnvC scope cl C X.env) fp)
theorem wipe_wipe {σ : St} (vs : List Nat) : wipe (wipe σ vs) vs = wipe σ vs := by
  apply List.ext_getElem?
  intro n
  by_cases h : n ∈ vs
  · have key : ∀ (τ : St) (ws : List Nat), τ.length = σ.length → n ∈ ws → (wipe τ ws)[n]? = if n < σ.length then some none else none := by
      intro τ ws hl
      induction ws with
      | nil => intro h; cases h
      | cons q ws ih =>
        intro h
        show ((wipe τ ws).set q none)[n]? = _
        by_cases hq : q = n
        · subst hq
          by_cases hl2 : q < σ.length
          · rw [List.getElem?_set_self (by rw [wipe_length, hl]; exact hl2), if_pos hl2]
          · rw [List.getElem?_eq_none (by rw [List.length_set, wipe_length, hl]; omega), if_neg hl2]
        · rw [List.getElem?_set_ne hq]
          refine ih ?_
          rcases List.mem_cons.mp h with e | e
          · exact absurd e.symm hq
          · exact e
    rw [key _ vs (wipe_length _ _) h, key σ vs rfl h]
  · rw [wipe_out h]
section
variable {K : Frg} {W : WX} {ft : FT} {σ : St} {H : Hp} {μ : Mu} {Ω : Sto} {ρ : Env}
/-- the turn of a comprehension -/
def lcT (ft : FT) (own : List Nat) (t : Tg) (c : EO) (e : E) (ρ : Env) : D → Sto → R (Option D) := fun d Ω => match bindT t d (wipeD ρ own) with
  | some ρ2 => (evC ft c ρ2 Ω).bind fun b Ω => if b then (evE ft e ρ2 Ω).bind fun y Ω => .ok (some y) Ω else .ok none Ω
  | none => .bad
/-- a turn that ends well: the target, the tests, the item -/
theorem lc_turn {own : List Nat} {t : Tg} {c : EO} {e : E} {d : D} {v : V} {r : R (Option D)} {S T : Hp → Prop} {N : V → Hp → Prop} (ho : ∀ i ∈ t.all, i ∈ own) (re : REnv K (Fz H μ Ω) μ Ω.length ρ σ) (w : Wf K H μ Ω) (rd : Rep K (Fz H μ Ω) μ Ω.length d v)
    (hr : (lcT ft own t c e ρ d Ω).nx ≠ .bad)
    (hN : ∀ y Ω4, lcT ft own t c e ρ d Ω = .ok (some y) Ω4 → ∀ u H4 μ4, Ext K H μ Ω H4 μ4 Ω4 → Rep K (Fz H4 μ4 Ω4) μ4 Ω4.length y u → N u H4)
    (hT : ∀ Ω3, lcT ft own t c e ρ d Ω = .ok none Ω3 → ∀ H3 μ3, Ext K H μ Ω H3 μ3 Ω3 → T H3) :
    TGv K t v (wipe σ own) H fun σ2 H2 => wipe σ2 own = wipe σ own ∧ TCv K WF ft c σ2 H2 fun b H3 => if b = true then TEv K WF ft e σ2 H3 N else T H3 := by
  unfold lcT at hr hN hT
  cases eb : bindT t d (wipeD ρ own) with
  | none => rw [eb] at hr; exact absurd rfl hr
  | some ρ2 =>
    rw [eb] at hr hN hT
    simp only at hr hN hT
    refine bind_tg eb rd (re.wipe own) fun σ2 re2 hw => ⟨?_, μ, Ω, ρ2, ⟨w, re2⟩, ?_⟩
    · rw [hw own ho, wipe_wipe]
    · cases ec : evC ft c ρ2 Ω with
      | bad => rw [ec] at hr; exact absurd rfl hr
      | ex x Ω3 => rw [ec] at hr; exact absurd rfl hr
      | ok b Ω3 =>
        rw [ec] at hr hN hT
        intro b' H3 μ3 ex3 hb
        have hb : b = b' := hb
        subst hb
        cases b with
        | false => exact hT Ω3 rfl H3 μ3 ex3
        | true =>
          show TEv K WF ft e σ2 H3 N
          refine ⟨μ3, Ω3, ρ2, ⟨ex3.wf, re2.tr ex3.tr⟩, ?_⟩
          have hr : ((evE ft e ρ2 Ω3).bind fun y Ω => R.ok (some y) Ω).nx ≠ .bad := hr
          have hN : ∀ y Ω4, ((evE ft e ρ2 Ω3).bind fun y Ω => R.ok (some y) Ω) = .ok (some y) Ω4 → ∀ u H4 μ4, Ext K H μ Ω H4 μ4 Ω4 → Rep K (Fz H4 μ4 Ω4) μ4 Ω4.length y u → N u H4 := hN
          cases ee : evE ft e ρ2 Ω3 with
          | bad => rw [ee] at hr; exact absurd rfl hr
          | ex x Ω4 => rw [ee] at hr; exact absurd rfl hr
          | ok y Ω4 =>
            rw [ee] at hN
            exact fun u H4 μ4 ex4 r4 => hN y Ω4 rfl u H4 μ4 (ex3.trans ex4) r4
theorem nx_ok {α : Type} {r : R α} (h : r.nx ≠ .bad) : ∃ a Ω, r = .ok a Ω := by
  cases r with
  | ok a Ω => exact ⟨a, Ω, rfl⟩
  | ex x Ω => exact absurd rfl h
  | bad => exact absurd rfl h
theorem hid_at {D : Addr} {o : HO} {H1 H2 : Hp} {μ1 μ2 : Mu} {Ω1 Ω2 : Sto} (ex : Ext K (upd H1 D o) (μ1.hide D) Ω1 H2 μ2 Ω2) : H2 D = some o := by
  rw [ex.hkp D (List.mem_cons_self ..), upd_same]
theorem hid_mem {D : Addr} {μ1 : Mu} : D ∈ (μ1.hide D).hid := List.mem_cons_self ..
end
section
variable {X : Cx} {W : WX} {ft : FT} {pos p : Pos} {l r m tg elt iter : Expr} {a b e : E} {ifs : List Expr} {scope : Scope} {own : List (Str × Nat)} {t : Tg} {sr : Sr} {c : EO}
/-- a comprehension, whatever becomes of its list -/
theorem i_lcG {vs : List Nat} {σ : St} {H : Hp} {Q : VK} {F : List Rf.D → Sto → R Rf.D} (ho : ∀ i ∈ t.all, i ∈ vs) (h : ∃ μ Ω ρ, At X.K σ H μ Ω ρ ∧ Post X.K (rD X.K) W σ H μ Ω ((evSr ft sr ρ Ω).bind fun xs Ω => (lcD (lcT ft vs t c e ρ) xs [] Ω).bind F) Q)
    (hend : ∀ {H1 H2 : Hp} {μ1 μ2 : Mu} {Ω1 Ω2 : Sto} {D : Addr} {acc : List Rf.D} {us : List V}, Wf X.K H1 μ1 Ω1 → H1 D = none → Ext X.K (upd H1 D (.lst us)) (μ1.hide D) Ω1 H2 μ2 Ω2 → Reps X.K (Fz H2 μ2 Ω2) μ2 Ω2.length acc us → us.length ≤ sizeLine →
      Post X.K (rD X.K) W σ H1 μ1 Ω1 (F acc Ω2) Q → Q (.ref D) H2) : tLc (TIv X.K W ft sr) (TGv X.K t) (TCv X.K WF ft c) (TEv X.K WF ft e) vs σ H Q := by
  obtain ⟨μ, Ω, ρ, at_, p⟩ := h
  refine ⟨μ, Ω, ρ, at_, (Post.bind (rel := rI X.K) p).mono ?_⟩
  rintro J H1 ⟨μ1, Ω1, xs, _, ex1, rJ, p1⟩
  have p1 : Post X.K (rD X.K) W σ H1 μ1 Ω1 ((lcD (lcT ft vs t c e ρ) xs [] Ω1).bind F) Q := p1
  intro D hD
  refine ⟨fun i m H2 => m = xs.length - i ∧ i ≤ xs.length ∧ ∃ μ2 Ω2 acc us, Ext X.K (upd H1 D (.lst us)) (μ1.hide D) Ω1 H2 μ2 Ω2 ∧ Reps X.K (Fz H2 μ2 Ω2) μ2 Ω2.length acc us ∧ us.length ≤ sizeLine ∧
    Post X.K (rD X.K) W σ H1 μ1 Ω1 ((lcD (lcT ft vs t c e ρ) (xs.drop i) acc Ω2).bind F) Q, ?_, ?_⟩
  · exact ⟨_, rfl, Nat.zero_le _, μ1.hide D, Ω1, [], [], Ext.refl (ex1.wf.hide hD trivial), Reps.nil, Nat.zero_le _, p1⟩
  · rintro i m H2 ⟨hm, hi, μ2, Ω2, acc, us, ex2, ra, hz, p2⟩
    have hDH := hid_at ex2
    have lat := Lat.hid ex1.wf hD ex2
    by_cases hlt : i < xs.length
    · have hdr : xs.drop i = xs[i] :: xs.drop (i + 1) := List.drop_eq_getElem_cons hlt
      rw [hdr] at p2
      have hd : xs[i]? = some xs[i] := List.getElem?_eq_getElem hlt
      generalize xs[i] = d at p2 hd
      refine .inr ⟨rJ.go i H2 μ2 Ω2 lat hlt, fun H' => ∃ μ3 Ω3 acc' us', Ext X.K (upd H1 D (.lst us')) (μ1.hide D) Ω1 H' μ3 Ω3 ∧ Reps X.K (Fz H' μ3 Ω3) μ3 Ω3.length acc' us' ∧ us'.length ≤ sizeLine ∧
        Post X.K (rD X.K) W σ H1 μ1 Ω1 ((lcD (lcT ft vs t c e ρ) (xs.drop (i + 1)) acc' Ω3).bind F) Q, fun H' hH' => ⟨xs.length - (i + 1), by omega, rfl, hlt, hH'⟩, ?_⟩
      intro x H' hy
      obtain ⟨_, ex3, rx⟩ := rJ.yld i H2 μ2 Ω2 x H' d lat hd hy
      have re : REnv X.K (Fz H' μ2 Ω2) μ2 Ω2.length ρ σ := ((at_.env.tr ex1.tr).tr lat.tr).tr ex3.tr
      have p2 : Post X.K (rD X.K) W σ H1 μ1 Ω1 (((lcT ft vs t c e ρ d Ω2).nx.bind fun o Ω1 => match o with
        | none => lcD (lcT ft vs t c e ρ) (xs.drop (i + 1)) acc Ω1
        | some d => if acc.length < big then lcD (lcT ft vs t c e ρ) (xs.drop (i + 1)) (acc ++ [d]) Ω1 else .bad).bind F) Q := p2
      have hr : (lcT ft vs t c e ρ d Ω2).nx ≠ .bad := fun z => by rw [z] at p2; exact p2
      refine lc_turn (S := fun _ => True) (r := .bad) ho re ex3.wf rx hr (fun y Ω4 ey u H4 μ4 ex4 ry => ?_) (fun Ω3 ey H3 μ3 ex4 => ?_)
      · rw [ey] at p2
        have p2 : Post X.K (rD X.K) W σ H1 μ1 Ω1 ((if acc.length < big then lcD (lcT ft vs t c e ρ) (xs.drop (i + 1)) (acc ++ [y]) Ω4 else .bad).bind F) Q := p2
        by_cases hb : acc.length < big
        · rw [if_pos hb] at p2
          have ex5 := (ex2.trans ex3).trans ex4
          have hb' : us.length < sizeLine := by rw [ra.length, ← big_eq]; exact hb
          refine ⟨us, hid_at ex5, hb', μ4, Ω4, acc ++ [y], us ++ [u], ex5.rehide hid_mem trivial, ?_, by rw [List.length_append, List.length_singleton]; exact hb', p2⟩
          rw [Fz.hidden (by rw [ex5.hid]; exact hid_mem)]
          exact (Reps.tr (ex3.trans ex4).tr _ _ ra).append (Reps.one ry)
        · rw [if_neg hb] at p2; exact False.elim p2
      · rw [ey] at p2
        exact ⟨μ3, Ω3, acc, us, (ex2.trans ex3).trans ex4, Reps.tr (ex3.trans ex4).tr _ _ ra, hz, p2⟩
    · have hie : i = xs.length := by omega
      subst hie
      rw [List.drop_length] at p2
      refine .inl ⟨rJ.stop _ H2 μ2 Ω2 lat (Nat.le_refl _), ?_⟩
      exact hend ex1.wf hD ex2 ra hz p2
theorem i_lc {vs : List Nat} {σ : St} {H : Hp} {Q : VK} (ho : ∀ i ∈ t.all, i ∈ vs) (h : TEv X.K W ft (.lc vs t sr c e) σ H Q) : tLc (TIv X.K W ft sr) (TGv X.K t) (TCv X.K WF ft c) (TEv X.K WF ft e) vs σ H Q := by
  refine i_lcG (F := fun ds Ω => .ok (.lst ds) Ω) ho h fun {H1 H2 μ1 μ2 Ω1 Ω2 D acc us} w hD ex2 ra hz p2 => ?_
  have ex3 := Ext.unhide (o' := .lst us) w hD ex2
  have hf := Fz.unhide (o' := .lst us) w hD ex2
  have tr := Tr.unhide (o' := .lst us) w hD ex2
  rw [upd_id (hid_at ex2)] at ex3 hf tr
  refine p2 _ _ _ ex3 ?_
  simp only [rD, Rep]
  exact ⟨D, us, rfl, Reps.tr tr _ _ ra, hz, hf⟩
theorem i_newc {vs : List Nat} {σ : St} {H : Hp} {Q : VK} (ho : ∀ i ∈ t.all, i ∈ vs) (h : TEv X.K W ft (.newc vs t sr c e) σ H Q) : tLc (TIv X.K W ft sr) (TGv X.K t) (TCv X.K WF ft c) (TEv X.K WF ft e) vs σ H Q := by
  refine i_lcG (F := fun ds Ω => .ok (.hd Ω.length) (Ω ++ [Ob.lst ds])) ho h fun {H1 H2 μ1 μ2 Ω1 Ω2 D acc us} w hD ex2 ra hz p2 => ?_
  have ex3 := Ext.hidpush (ob := .lst acc) w hD ex2 (hid_at ex2) ⟨us, rfl, ra, hz⟩
  refine p2 _ _ _ ex3 ?_
  simp only [rD, Rep]
  exact ⟨by rw [List.length_append, List.length_singleton]; omega, by rw [pushM_eq]⟩
theorem s_lc (hc : X.calm = true) (hN : X.N.Nodup) (hi : PI X tg iter (TIv X.K W ft sr)) (ok : BlkOk X.N X.env.scope scope own) (ho : ∀ i ∈ t.all, i ∈ own.map (·.2)) (hg : Blk X scope fun Y => PG Y tg (TGv X.K t)) (ht : Blk X scope fun Y => PTs Y ifs (TCv X.K WF ft c))
    (he : Blk X scope fun Y => PE Y elt (TEv X.K WF ft e)) (hs : ∀ x, foldedSetIterable iter X.env x = pure x) : PE X (.ListComp elt [⟨tg, iter, ifs, 0⟩] scope pos) (TEv X.K W ft (.lc (own.map (·.2)) t sr c e)) :=
  (pe_lc hc hN hi ok hg ht he hs).imp fun _ _ _ h => i_lc ho h
theorem s_newc (hc : X.calm = true) (hN : X.N.Nodup) (hi : PI X tg iter (TIv X.K W ft sr)) (ok : BlkOk X.N X.env.scope scope own) (ho : ∀ i ∈ t.all, i ∈ own.map (·.2)) (hg : Blk X scope fun Y => PG Y tg (TGv X.K t)) (ht : Blk X scope fun Y => PTs Y ifs (TCv X.K WF ft c))
    (he : Blk X scope fun Y => PE Y elt (TEv X.K WF ft e)) (hs : ∀ x, foldedSetIterable iter X.env x = pure x) : PE X (.ListComp elt [⟨tg, iter, ifs, 0⟩] scope pos) (TEv X.K W ft (.newc (own.map (·.2)) t sr c e)) :=
  (pe_lc hc hN hi ok hg ht he hs).imp fun _ _ _ h => i_newc ho h
theorem s_setLc {i : Nat} {y : Str} {py spos : Pos} (hc : X.calm = true) (hN : X.N.Nodup) (hy : X.N[i]? = some y) (hyl : X.env.scope.names.lookup y = some .local) (hsw : swapsWith (.ListComp elt [⟨tg, iter, ifs, 0⟩] scope pos) (some (.Name y py)) spos.line X.env = pure true)
    (hi : PI X tg iter (TIv X.K W ft sr)) (ok : BlkOk X.N X.env.scope scope own) (ho : ∀ i ∈ t.all, i ∈ own.map (·.2)) (hg : Blk X scope fun Y => PG Y tg (TGv X.K t)) (ht : Blk X scope fun Y => PTs Y ifs (TCv X.K WF ft c))
    (he : Blk X scope fun Y => PE Y elt (TEv X.K WF ft e)) (hs : ∀ x, foldedSetIterable iter X.env x = pure x) : PS X (.Assign [.Name y py] (.ListComp elt [⟨tg, iter, ifs, 0⟩] scope pos) spos) (tAsg (TEv X.K W ft (.lc (own.map (·.2)) t sr c e)) (gName i)) :=
  (ps_setLc hc hN hy hyl hsw hi ok hg ht he hs).imp fun _ _ _ h => i_lc ho h
end
end Rf
end
section
namespace Rf
open PySem L2
section
variable {K : Frg} {W : WX} {ft : FT} {σ : St} {H : Hp} {μ : Mu} {Ω : Sto} {ρ : Env}
def dcT (ft : FT) (own : List Nat) (t : Tg) (c : EO) (k v : E) (ρ : Env) : D → Sto → R (Option (D × D)) := fun d Ω => match bindT t d (wipeD ρ own) with
  | some ρ2 => (evC ft c ρ2 Ω).bind fun b Ω => if b then (evE ft k ρ2 Ω).bind fun y Ω => (evE ft v ρ2 Ω).bind fun z Ω => .ok (some (y, z)) Ω else .ok none Ω
  | none => .bad
theorem dc_turn {own : List Nat} {t : Tg} {c : EO} {k v : E} {d : D} {x : V} {T : Hp → Prop} {N : V → V → Hp → Prop} (ho : ∀ i ∈ t.all, i ∈ own) (re : REnv K (Fz H μ Ω) μ Ω.length ρ σ) (w : Wf K H μ Ω) (rd : Rep K (Fz H μ Ω) μ Ω.length d x)
    (hr : (dcT ft own t c k v ρ d Ω).nx ≠ .bad)
    (hN : ∀ y z Ω4, dcT ft own t c k v ρ d Ω = .ok (some (y, z)) Ω4 → ∀ u1 u2 H4 μ4, Ext K H μ Ω H4 μ4 Ω4 → Rep K (Fz H4 μ4 Ω4) μ4 Ω4.length y u1 → Rep K (Fz H4 μ4 Ω4) μ4 Ω4.length z u2 → N u1 u2 H4)
    (hT : ∀ Ω3, dcT ft own t c k v ρ d Ω = .ok none Ω3 → ∀ H3 μ3, Ext K H μ Ω H3 μ3 Ω3 → T H3) :
    TGv K t x (wipe σ own) H fun σ2 H2 => wipe σ2 own = wipe σ own ∧ TCv K WF ft c σ2 H2 fun b H3 => if b = true then TEv K WF ft k σ2 H3 fun u1 H4 => TEv K WF ft v σ2 H4 fun u2 H5 => N u1 u2 H5 else T H3 := by
  unfold dcT at hr hN hT
  cases eb : bindT t d (wipeD ρ own) with
  | none => rw [eb] at hr; exact absurd rfl hr
  | some ρ2 =>
    rw [eb] at hr hN hT
    simp only at hr hN hT
    refine bind_tg eb rd (re.wipe own) fun σ2 re2 hw => ⟨?_, μ, Ω, ρ2, ⟨w, re2⟩, ?_⟩
    · rw [hw own ho, wipe_wipe]
    · cases ec : evC ft c ρ2 Ω with
      | bad => rw [ec] at hr; exact absurd rfl hr
      | ex x Ω3 => rw [ec] at hr; exact absurd rfl hr
      | ok b Ω3 =>
        rw [ec] at hr hN hT
        intro b' H3 μ3 ex3 hb
        have hb : b = b' := hb
        subst hb
        cases b with
        | false => exact hT Ω3 rfl H3 μ3 ex3
        | true =>
          show TEv K WF ft k σ2 H3 fun u1 H4 => TEv K WF ft v σ2 H4 fun u2 H5 => N u1 u2 H5
          refine ⟨μ3, Ω3, ρ2, ⟨ex3.wf, re2.tr ex3.tr⟩, ?_⟩
          have hr : ((evE ft k ρ2 Ω3).bind fun y Ω => (evE ft v ρ2 Ω).bind fun z Ω => R.ok (some (y, z)) Ω).nx ≠ .bad := hr
          have hN : ∀ y z Ω4, ((evE ft k ρ2 Ω3).bind fun y Ω => (evE ft v ρ2 Ω).bind fun z Ω => R.ok (some (y, z)) Ω) = .ok (some (y, z)) Ω4 → ∀ u1 u2 H4 μ4, Ext K H μ Ω H4 μ4 Ω4 → Rep K (Fz H4 μ4 Ω4) μ4 Ω4.length y u1 → Rep K (Fz H4 μ4 Ω4) μ4 Ω4.length z u2 → N u1 u2 H4 := hN
          cases ee : evE ft k ρ2 Ω3 with
          | bad => rw [ee] at hr; exact absurd rfl hr
          | ex x Ω4 => rw [ee] at hr; exact absurd rfl hr
          | ok y Ω4 =>
            rw [ee] at hN hr
            intro u H4 μ4 ex4 r4
            refine ⟨μ4, Ω4, ρ2, ⟨ex4.wf, (re2.tr ex3.tr).tr ex4.tr⟩, ?_⟩
            have hr : ((evE ft v ρ2 Ω4).bind fun z Ω => R.ok (some (y, z)) Ω).nx ≠ .bad := hr
            have hN : ∀ y' z Ω5, ((evE ft v ρ2 Ω4).bind fun z Ω => R.ok (some (y, z)) Ω) = .ok (some (y', z)) Ω5 → ∀ u1 u2 H4 μ4, Ext K H μ Ω H4 μ4 Ω5 → Rep K (Fz H4 μ4 Ω5) μ4 Ω5.length y' u1 → Rep K (Fz H4 μ4 Ω5) μ4 Ω5.length z u2 → N u1 u2 H4 := hN
            cases ev : evE ft v ρ2 Ω4 with
            | bad => rw [ev] at hr; exact absurd rfl hr
            | ex x Ω5 => rw [ev] at hr; exact absurd rfl hr
            | ok z Ω5 =>
              rw [ev] at hN
              exact fun u2 H5 μ5 ex5 r5 => hN y z Ω5 rfl u u2 H5 μ5 ((ex3.trans ex4).trans ex5) (Rep.tr ex5.tr _ _ r4) r5
end
section
variable {X : Cx} {W : WX} {ft : FT} {pos p : Pos} {l r m tg elt kx vx iter tg1 iter1 : Expr} {a b e k v : E} {ifs : List Expr} {scope : Scope} {own : List (Str × Nat)} {t t1 : Tg} {sr sr1 : Sr} {c : EO}
theorem i_dc {vs : List Nat} {σ : St} {H : Hp} {Q : VK} (ho : ∀ i ∈ t.all, i ∈ vs) (h : TEv X.K W ft (.dc vs t sr c k v) σ H Q) :
    tDc (TIv X.K W ft sr) (TGv X.K t) (TCv X.K WF ft c) (TEv X.K WF ft k) (TEv X.K WF ft v) vs σ H fun v H1 => ∃ p u, v = .ref p ∧ H1 p = some u ∧ Mut (some u) ∧ ∀ od, Q v (upd H1 p (.frz od u)) := by
  obtain ⟨μ, Ω, ρ, at_, p⟩ := h
  refine ⟨μ, Ω, ρ, at_, (Post.bind (rel := rI X.K) p).mono ?_⟩
  rintro J H1 ⟨μ1, Ω1, xs, _, ex1, rJ, p1⟩
  have p1 : Post X.K (rD X.K) W σ H1 μ1 Ω1 ((dcD (dcT ft vs t c k v ρ) xs [] Ω1).bind fun ds Ω => .ok (.dk ds) Ω) Q := p1
  intro D hD
  refine ⟨fun i m H2 => m = xs.length - i ∧ i ≤ xs.length ∧ ∃ μ2 Ω2 acc us, Ext X.K (upd H1 D (.dK us)) (μ1.hide D) Ω1 H2 μ2 Ω2 ∧ RepK X.K (Fz H2 μ2 Ω2) μ2 Ω2.length acc us ∧
    Post X.K (rD X.K) W σ H1 μ1 Ω1 ((dcD (dcT ft vs t c k v ρ) (xs.drop i) acc Ω2).bind fun ds Ω => .ok (.dk ds) Ω) Q, ?_, ?_⟩
  · exact ⟨_, rfl, Nat.zero_le _, μ1.hide D, Ω1, [], [], Ext.refl (ex1.wf.hide hD trivial), by simp only [RepK], p1⟩
  · rintro i m H2 ⟨hm, hi, μ2, Ω2, acc, us, ex2, ra, p2⟩
    have hDH := hid_at ex2
    have lat := Lat.hid ex1.wf hD ex2
    by_cases hlt : i < xs.length
    · have hdr : xs.drop i = xs[i] :: xs.drop (i + 1) := List.drop_eq_getElem_cons hlt
      rw [hdr] at p2
      have hd : xs[i]? = some xs[i] := List.getElem?_eq_getElem hlt
      generalize xs[i] = d at p2 hd
      refine .inr ⟨rJ.go i H2 μ2 Ω2 lat hlt, fun H' => ∃ μ3 Ω3 acc' us', Ext X.K (upd H1 D (.dK us')) (μ1.hide D) Ω1 H' μ3 Ω3 ∧ RepK X.K (Fz H' μ3 Ω3) μ3 Ω3.length acc' us' ∧
        Post X.K (rD X.K) W σ H1 μ1 Ω1 ((dcD (dcT ft vs t c k v ρ) (xs.drop (i + 1)) acc' Ω3).bind fun ds Ω => .ok (.dk ds) Ω) Q, fun H' hH' => ⟨xs.length - (i + 1), by omega, rfl, hlt, hH'⟩, ?_⟩
      intro x H' hy
      obtain ⟨_, ex3, rx⟩ := rJ.yld i H2 μ2 Ω2 x H' d lat hd hy
      have re : REnv X.K (Fz H' μ2 Ω2) μ2 Ω2.length ρ σ := ((at_.env.tr ex1.tr).tr lat.tr).tr ex3.tr
      have p2 : Post X.K (rD X.K) W σ H1 μ1 Ω1 (((dcT ft vs t c k v ρ d Ω2).nx.bind fun o Ω1 => match o with
        | none => dcD (dcT ft vs t c k v ρ) (xs.drop (i + 1)) acc Ω1
        | some (k', v') => match keyD k' with
          | some q => if acc.length < big then dcD (dcT ft vs t c k v ρ) (xs.drop (i + 1)) (putKD acc q v') Ω1 else .bad
          | none => .bad).bind fun ds Ω => .ok (.dk ds) Ω) Q := p2
      have hr : (dcT ft vs t c k v ρ d Ω2).nx ≠ .bad := fun z => by rw [z] at p2; exact p2
      refine dc_turn ho re ex3.wf rx hr (fun y z Ω4 ey u1 u2 H4 μ4 ex4 ry rz => ?_) (fun Ω3 ey H3 μ3 ex4 => ?_)
      · rw [ey] at p2
        have p2 : Post X.K (rD X.K) W σ H1 μ1 Ω1 ((match keyD y with
          | some q => if acc.length < big then dcD (dcT ft vs t c k v ρ) (xs.drop (i + 1)) (putKD acc q z) Ω4 else .bad
          | none => .bad).bind fun ds Ω => .ok (.dk ds) Ω) Q := p2
        cases ek : keyD y with
        | none => rw [ek] at p2; exact False.elim p2
        | some q =>
          rw [ek] at p2
          simp only at p2
          by_cases hb : acc.length < big
          · rw [if_pos hb] at p2
            have ex5 := (ex2.trans ex3).trans ex4
            have hb' : us.length < sizeLine := by rw [ra.length, ← big_eq]; exact hb
            refine ⟨us, q, key_rep ry ek, hid_at ex5, hb', μ4, Ω4, putKD acc q z, putK us q u2, ex5.rehide hid_mem trivial, ?_, p2⟩
            rw [Fz.hidden (by rw [ex5.hid]; exact hid_mem)]
            exact RepK.put q rz (RepK.tr (ex3.trans ex4).tr _ _ ra)
          · rw [if_neg hb] at p2; exact False.elim p2
      · rw [ey] at p2
        exact ⟨μ3, Ω3, acc, us, (ex2.trans ex3).trans ex4, RepK.tr (ex3.trans ex4).tr _ _ ra, p2⟩
    · have hie : i = xs.length := by omega
      subst hie
      rw [List.drop_length] at p2
      refine .inl ⟨rJ.stop _ H2 μ2 Ω2 lat (Nat.le_refl _), D, .dK us, rfl, hDH, trivial, fun od => ?_⟩
      have ex3 := Ext.unhide (o' := .frz od (.dK us)) ex1.wf hD ex2
      have hf := Fz.unhide (o' := .frz od (.dK us)) ex1.wf hD ex2
      have tr := Tr.unhide (o' := .frz od (.dK us)) ex1.wf hD ex2
      have p2 : Post X.K (rD X.K) W σ H1 μ1 Ω1 (.ok (.dk acc) Ω2) Q := p2
      refine p2 _ _ _ ex3 ?_
      simp only [rD, Rep]
      exact ⟨D, us, od, rfl, RepK.tr tr _ _ ra, hf⟩
theorem s_dc (hc : X.calm = true) (hN : X.N.Nodup) (hi : PI X tg iter (TIv X.K W ft sr)) (ok : BlkOk X.N X.env.scope scope own) (ho : ∀ i ∈ t.all, i ∈ own.map (·.2)) (hg : Blk X scope fun Y => PG Y tg (TGv X.K t)) (ht : Blk X scope fun Y => PTs Y ifs (TCv X.K WF ft c))
    (hk : Blk X scope fun Y => PE Y kx (TEv X.K WF ft k)) (he : Blk X scope fun Y => PE Y vx (TEv X.K WF ft v)) (hs : ∀ x, foldedSetIterable iter X.env x = pure x) : PE X (.DictComp kx vx [⟨tg, iter, ifs, 0⟩] scope pos) (TEv X.K W ft (.dc (own.map (·.2)) t sr c k v)) :=
  (pe_dc hc hN hi ok hg ht hk he hs).lock.imp fun _ _ _ h => i_dc ho h
/-! ### two clauses -/
def lc2T (ft : FT) (own own1 : List Nat) (t : Tg) (t1 : Tg) (s1 : Sr) (c : EO) (e : E) (ρ : Env) : D → List D → Sto → R (List D) := fun d acc Ω => match bindT t d (wipeD ρ own) with
  | some ρ1 => (evSr ft s1 ρ1 Ω).bind fun ys Ω => lcD (lcT ft own1 t1 c e ρ1) ys acc Ω
  | none => .bad
theorem i_lc2 {vs vs1 : List Nat} {σ : St} {H : Hp} {Q : VK} (ho : ∀ i ∈ t.all, i ∈ vs) (ho1 : ∀ i ∈ t1.all, i ∈ vs1) (h : TEv X.K W ft (.lc2 vs vs1 t sr t1 sr1 c e) σ H Q) :
    tLc2 (TIv X.K W ft sr) (TGv X.K t) tYes (TIv X.K WF ft sr1) (TGv X.K t1) (TCv X.K WF ft c) (TEv X.K WF ft e) vs vs1 σ H Q := by
  obtain ⟨μ, Ω, ρ, at_, p⟩ := h
  refine ⟨μ, Ω, ρ, at_, (Post.bind (rel := rI X.K) p).mono ?_⟩
  rintro J H1 ⟨μ1, Ω1, xs, _, ex1, rJ, p1⟩
  have p1 : Post X.K (rD X.K) W σ H1 μ1 Ω1 ((lc2D (lc2T ft vs vs1 t t1 sr1 c e ρ) xs [] Ω1).bind fun ds Ω => .ok (.lst ds) Ω) Q := p1
  intro D hD
  refine ⟨fun i m H2 => m = xs.length - i ∧ i ≤ xs.length ∧ ∃ μ2 Ω2 acc us, Ext X.K (upd H1 D (.lst us)) (μ1.hide D) Ω1 H2 μ2 Ω2 ∧ Reps X.K (Fz H2 μ2 Ω2) μ2 Ω2.length acc us ∧ us.length ≤ sizeLine ∧
    Post X.K (rD X.K) W σ H1 μ1 Ω1 ((lc2D (lc2T ft vs vs1 t t1 sr1 c e ρ) (xs.drop i) acc Ω2).bind fun ds Ω => .ok (.lst ds) Ω) Q, ?_, ?_⟩
  · exact ⟨_, rfl, Nat.zero_le _, μ1.hide D, Ω1, [], [], Ext.refl (ex1.wf.hide hD trivial), Reps.nil, Nat.zero_le _, p1⟩
  · rintro i m H2 ⟨hm, hi, μ2, Ω2, acc, us, ex2, ra, hz, p2⟩
    have hDH := hid_at ex2
    have lat := Lat.hid ex1.wf hD ex2
    by_cases hlt : i < xs.length
    · have hdr : xs.drop i = xs[i] :: xs.drop (i + 1) := List.drop_eq_getElem_cons hlt
      rw [hdr] at p2
      have hd : xs[i]? = some xs[i] := List.getElem?_eq_getElem hlt
      generalize xs[i] = d at p2 hd
      refine .inr ⟨rJ.go i H2 μ2 Ω2 lat hlt, fun H' => ∃ μ3 Ω3 acc' us', Ext X.K (upd H1 D (.lst us')) (μ1.hide D) Ω1 H' μ3 Ω3 ∧ Reps X.K (Fz H' μ3 Ω3) μ3 Ω3.length acc' us' ∧ us'.length ≤ sizeLine ∧
        Post X.K (rD X.K) W σ H1 μ1 Ω1 ((lc2D (lc2T ft vs vs1 t t1 sr1 c e ρ) (xs.drop (i + 1)) acc' Ω3).bind fun ds Ω => .ok (.lst ds) Ω) Q, fun H' hH' => ⟨xs.length - (i + 1), by omega, rfl, hlt, hH'⟩, ?_⟩
      intro x H' hy
      obtain ⟨_, ex3, rx⟩ := rJ.yld i H2 μ2 Ω2 x H' d lat hd hy
      have re : REnv X.K (Fz H' μ2 Ω2) μ2 Ω2.length ρ σ := ((at_.env.tr ex1.tr).tr lat.tr).tr ex3.tr
      have p2 : Post X.K (rD X.K) W σ H1 μ1 Ω1 (((lc2T ft vs vs1 t t1 sr1 c e ρ d acc Ω2).nx.bind fun acc1 Ω1 => lc2D (lc2T ft vs vs1 t t1 sr1 c e ρ) (xs.drop (i + 1)) acc1 Ω1).bind fun ds Ω => .ok (.lst ds) Ω) Q := p2
      have hr : (lc2T ft vs vs1 t t1 sr1 c e ρ d acc Ω2).nx ≠ .bad := fun z => by rw [z] at p2; exact p2
      obtain ⟨acc1, Ω3, e3⟩ := nx_ok hr
      rw [e3] at p2
      have p2 : Post X.K (rD X.K) W σ H1 μ1 Ω1 ((lc2D (lc2T ft vs vs1 t t1 sr1 c e ρ) (xs.drop (i + 1)) acc1 Ω3).bind fun ds Ω => .ok (.lst ds) Ω) Q := p2
      have e3' := e3
      unfold lc2T at e3
      cases eb : bindT t d (wipeD ρ vs) with
      | none => rw [eb] at e3; cases e3
      | some ρ1 =>
        rw [eb] at e3
        simp only at e3
        refine bind_tg eb rx (re.wipe vs) fun σ2 re2 hw => ⟨by rw [hw vs ho, wipe_wipe], ?_⟩
        show TIv X.K WF ft sr1 σ2 H' _
        cases es : evSr ft sr1 ρ1 Ω2 with
        | bad => rw [es] at e3; cases e3
        | ex x Ω4 => rw [es] at e3; cases e3
        | ok ys Ω4 =>
          rw [es] at e3
          have e3 : lcD (lcT ft vs1 t1 c e ρ1) ys acc Ω4 = .ok acc1 Ω3 := e3
          refine ⟨μ2, Ω2, ρ1, ⟨ex3.wf, re2⟩, ?_⟩
          rw [es]
          intro J1 H4 μ4 ex4 rJ1
          have rJ1 : ItRep X.K J1 H4 μ4 Ω4 ys := rJ1
          refine ⟨fun j n H5 => n = ys.length - j ∧ j ≤ ys.length ∧ ∃ μ5 Ω5 acc5 us5, Ext X.K (upd H1 D (.lst us5)) (μ1.hide D) Ω1 H5 μ5 Ω5 ∧ Lat X.K H4 μ4 Ω4 H5 μ5 Ω5 ∧ Reps X.K (Fz H5 μ5 Ω5) μ5 Ω5.length acc5 us5 ∧ us5.length ≤ sizeLine ∧
            lcD (lcT ft vs1 t1 c e ρ1) (ys.drop j) acc5 Ω5 = .ok acc1 Ω3, ?_, ?_⟩
          · exact ⟨_, rfl, Nat.zero_le _, μ4, Ω4, acc, us, (ex2.trans ex3).trans ex4, (Ext.refl ex4.wf).lat, Reps.tr (ex3.trans ex4).tr _ _ ra, hz, e3⟩
          · rintro j n H5 ⟨hn, hj, μ5, Ω5, acc5, us5, ex5, lat5, ra5, hz5, e5⟩
            by_cases hjt : j < ys.length
            · have hdr1 : ys.drop j = ys[j] :: ys.drop (j + 1) := List.drop_eq_getElem_cons hjt
              rw [hdr1] at e5
              have hd1 : ys[j]? = some ys[j] := List.getElem?_eq_getElem hjt
              generalize ys[j] = d1 at e5 hd1
              refine .inr ⟨rJ1.go j H5 μ5 Ω5 lat5 hjt, fun H' => ∃ μ6 Ω6 acc6 us6, Ext X.K (upd H1 D (.lst us6)) (μ1.hide D) Ω1 H' μ6 Ω6 ∧ Lat X.K H4 μ4 Ω4 H' μ6 Ω6 ∧ Reps X.K (Fz H' μ6 Ω6) μ6 Ω6.length acc6 us6 ∧ us6.length ≤ sizeLine ∧
                lcD (lcT ft vs1 t1 c e ρ1) (ys.drop (j + 1)) acc6 Ω6 = .ok acc1 Ω3, fun H' hH' => ⟨ys.length - (j + 1), by omega, rfl, hjt, hH'⟩, ?_⟩
              intro x1 H' hy1
              obtain ⟨_, ex6, rx1⟩ := rJ1.yld j H5 μ5 Ω5 x1 H' d1 lat5 hd1 hy1
              have re3 : REnv X.K (Fz H' μ5 Ω5) μ5 Ω5.length ρ1 σ2 := ((re2.tr ex4.tr).tr lat5.tr).tr ex6.tr
              have e5 : ((lcT ft vs1 t1 c e ρ1 d1 Ω5).nx.bind fun o Ω1 => match o with
                | none => lcD (lcT ft vs1 t1 c e ρ1) (ys.drop (j + 1)) acc5 Ω1
                | some d => if acc5.length < big then lcD (lcT ft vs1 t1 c e ρ1) (ys.drop (j + 1)) (acc5 ++ [d]) Ω1 else .bad) = .ok acc1 Ω3 := e5
              have hr1 : (lcT ft vs1 t1 c e ρ1 d1 Ω5).nx ≠ .bad := fun z => by rw [z] at e5; cases e5
              refine lc_turn (S := fun _ => True) (r := .bad) ho1 re3 ex6.wf rx1 hr1 (fun y Ω7 ey u H7 μ7 ex7 ry => ?_) (fun Ω7 ey H7 μ7 ex7 => ?_)
              · rw [ey] at e5
                have e5 : (if acc5.length < big then lcD (lcT ft vs1 t1 c e ρ1) (ys.drop (j + 1)) (acc5 ++ [y]) Ω7 else .bad) = .ok acc1 Ω3 := e5
                by_cases hb : acc5.length < big
                · rw [if_pos hb] at e5
                  have ex8 := (ex5.trans ex6).trans ex7
                  have hb' : us5.length < sizeLine := by rw [ra5.length, ← big_eq]; exact hb
                  have hmem : D ∈ μ7.hid := by rw [ex8.hid]; exact hid_mem
                  have ex9 := ex8.rehide (o' := .lst (us5 ++ [u])) hid_mem trivial
                  have lat9 : Lat X.K H4 μ4 Ω4 (upd H7 D (.lst (us5 ++ [u]))) μ7 Ω7 := by
                    have l := lat5.trans (ex6.trans ex7).lat
                    exact ⟨ex9.wf, fun a o h => by rw [Fz.hidden hmem]; exact l.fz a o h, l.mu, l.len⟩
                  refine ⟨us5, hid_at ex8, hb', μ7, Ω7, acc5 ++ [y], us5 ++ [u], ex9, lat9, ?_, by rw [List.length_append, List.length_singleton]; exact hb', e5⟩
                  rw [Fz.hidden hmem]
                  exact (Reps.tr (ex6.trans ex7).tr _ _ ra5).append (Reps.one ry)
                · rw [if_neg hb] at e5; cases e5
              · rw [ey] at e5
                exact ⟨μ7, Ω7, acc5, us5, (ex5.trans ex6).trans ex7, lat5.trans (ex6.trans ex7).lat, Reps.tr (ex6.trans ex7).tr _ _ ra5, hz5, e5⟩
            · have hje : j = ys.length := by omega
              subst hje
              rw [List.drop_length] at e5
              cases e5
              exact .inl ⟨rJ1.stop _ H5 μ5 _ lat5 (Nat.le_refl _), μ5, _, _, us5, ex5, ra5, hz5, p2⟩
    · have hie : i = xs.length := by omega
      subst hie
      rw [List.drop_length] at p2
      refine .inl ⟨rJ.stop _ H2 μ2 Ω2 lat (Nat.le_refl _), ?_⟩
      have ex3 := Ext.unhide (o' := .lst us) ex1.wf hD ex2
      have hf := Fz.unhide (o' := .lst us) ex1.wf hD ex2
      have tr := Tr.unhide (o' := .lst us) ex1.wf hD ex2
      rw [upd_id hDH] at ex3 hf tr
      have p2 : Post X.K (rD X.K) W σ H1 μ1 Ω1 (.ok (.lst acc) Ω2) Q := p2
      refine p2 _ _ _ ex3 ?_
      simp only [rD, Rep]
      exact ⟨D, us, rfl, Reps.tr tr _ _ ra, hz, hf⟩
theorem s_lc2 {vs1 : List Nat} (hc : X.calm = true) (hN : X.N.Nodup) (hi : PI X tg iter (TIv X.K W ft sr)) (ok : BlkOk X.N X.env.scope scope own) (hv : ∀ i ∈ vs1, i ∈ own.map (·.2)) (ho : ∀ i ∈ t.all, i ∈ own.map (·.2)) (ho1 : ∀ i ∈ t1.all, i ∈ vs1)
    (hg : Blk X scope fun Y => PG Y tg (TGv X.K t)) (hi1 : Blk X scope fun Y => PI Y tg1 iter1 (TIv X.K WF ft sr1)) (hg1 : Blk X scope fun Y => PG Y tg1 (TGv X.K t1)) (ht : Blk X scope fun Y => PTs Y ifs (TCv X.K WF ft c))
    (he : Blk X scope fun Y => PE Y elt (TEv X.K WF ft e)) (hs : ∀ x, foldedSetIterable iter X.env x = pure x) (hs1 : ∀ env x, foldedSetIterable iter1 env x = pure x) : PE X (.ListComp elt [⟨tg, iter, [], 0⟩, ⟨tg1, iter1, ifs, 0⟩] scope pos) (TEv X.K W ft (.lc2 (own.map (·.2)) vs1 t sr t1 sr1 c e)) :=
  (pe_lc2 hc hN hi ok hv hg (fun _ _ _ _ _ => pts_nil) hi1 hg1 ht he hs hs1).imp fun _ _ _ h => i_lc2 ho ho1 h
theorem s_cnone : PTs X [] (TCv X.K W ft .none) := ⟨fun pins s σ H Q I ⟨μ, Ω, ρ, at_, p⟩ => pts_nil.run pins s σ H Q I (Post.here (rel := rQ) p at_.wf rfl)⟩
theorem s_csome (h : PT X l (TTv X.K W ft a)) : PTs X [l] (TCv X.K W ft (.some a)) := ⟨fun pins s σ H Q I h1 => (pts_one h).run pins s σ H Q I h1⟩
end
end Rf
end
section
namespace Rf
open PySem L2
/-! ### statements -/
section
variable {X : Cx} {W : WX} {ft : FT} {pos p : Pos} {l r m tg elt iter o i value : Expr} {a b e k v : E} {es : List Expr} {el : EL} {t : Tg} {sr : Sr} {st : Stmt} {sts u1 u2 : List Stmt} {sl s1 s2 : SL} {ss : S}
theorem nope_s : PS X st (TSv X.K W ft .nope) := ps_never.imp fun D σ H ⟨μ, Ω, ρ, at_, p⟩ => p
theorem nope_e : PE X l (TEv X.K W ft .nope) := ⟨fun pins s σ H Q I ⟨μ, Ω, ρ, at_, p⟩ => False.elim p⟩
theorem s_pass : PS X (.Pass pos) (TSv X.K W ft .pass) := ps_pass.imp fun D σ H ⟨μ, Ω, ρ, at_, p⟩ => p σ H μ (Ext.refl at_.wf) at_.env
theorem s_brk : PS X (.Break pos) (TSv X.K W ft .brk) := ps_break.imp fun D σ H ⟨μ, Ω, ρ, at_, p⟩ => p σ H μ (Ext.refl at_.wf) at_.env
theorem s_cnt : PS X (.Continue pos) (TSv X.K W ft .cnt) := ps_continue.imp fun D σ H ⟨μ, Ω, ρ, at_, p⟩ => p σ H μ (Ext.refl at_.wf) at_.env
theorem s_retN : PS X (.Return none pos) (TSv X.K W ft .retN) := ps_retN.imp fun D σ H ⟨μ, Ω, ρ, at_, p⟩ => p .non H μ (Ext.refl at_.wf) rnon
theorem s_ret (h : PE X l (TEv X.K W ft e)) : PS X (.Return (some l) pos) (TSv X.K W ft (.ret e)) := by
  refine (ps_ret h).imp fun D σ H ⟨μ, Ω, ρ, at_, p⟩ => ?_
  refine ⟨μ, Ω, ρ, at_, (PostS.st (rel := rD X.K) at_ (show PostS X.K W H μ Ω ((evE ft e ρ Ω).st ρ fun d Ω => .ok (.rt d) Ω) D from p)).mono ?_⟩
  rintro v H1 ⟨μ1, Ω1, x, _, ex1, r1, p1⟩
  exact p1 v H1 μ1 (Ext.refl ex1.wf) r1
theorem s_expr (h : PE X l (TEv X.K W ft e)) (hs : swapsWith l none pos.line X.env = pure false) : PS X (.Expr l pos) (TSv X.K W ft (.expr e)) := by
  refine (ps_expr h hs).imp fun D σ H ⟨μ, Ω, ρ, at_, p⟩ => ?_
  refine ⟨μ, Ω, ρ, at_, (PostS.st (rel := rD X.K) at_ (show PostS X.K W H μ Ω ((evE ft e ρ Ω).st ρ fun d Ω => .ok (.nx ρ) Ω) D from p)).mono ?_⟩
  rintro v H1 ⟨μ1, Ω1, x, _, ex1, r1, p1⟩
  exact p1 σ H1 μ1 (Ext.refl ex1.wf) (at_.ext ex1).env
theorem s_doc {x : Str} {j : Nat} {p2 : Pos} : PS X (.Expr (.Constant (.str x) j p2) pos) (TSv X.K W ft .pass) := ps_doc.imp fun D σ H ⟨μ, Ω, ρ, at_, p⟩ => p σ H μ (Ext.refl at_.wf) at_.env
theorem i_asg {D : Ends} {σ : St} {H : Hp} (h : TSv X.K W ft (.asg t e) D σ H) : tAsg (TEv X.K W ft e) (TGv X.K t) D σ H := by
  obtain ⟨μ, Ω, ρ, at_, p⟩ := h
  refine ⟨μ, Ω, ρ, at_, (PostS.st (rel := rD X.K) at_ (show PostS X.K W H μ Ω ((evE ft e ρ Ω).st ρ fun d Ω => match bindT t d ρ with | some ρ' => .ok (.nx ρ') Ω | none => .bad) D from p)).mono ?_⟩
  rintro v H1 ⟨μ1, Ω1, x, _, ex1, r1, p1⟩
  cases eb : bindT t x ρ with
  | none => rw [eb] at p1; exact False.elim p1
  | some ρ' =>
    rw [eb] at p1
    exact bind_tg eb r1 (at_.ext ex1).env fun σ' re' _ => p1 σ' H1 μ1 (Ext.refl ex1.wf) re'
theorem s_set {i : Nat} {x : Str} {p2 : Pos} (hN : X.N.Nodup) (h : TgN X i x) (he : PE X l (TEv X.K W ft e)) (hs : swapsWith l (some (.Name x p2)) pos.line X.env = pure false) : PS X (.Assign [.Name x p2] l pos) (TSv X.K W ft (.asg (.nm i) e)) :=
  (ps_set hN h.1 h.2.1 he hs h.2.2).imp fun _ _ _ h => i_asg h
theorem s_asg (hc : X.calm = true) (hN : X.N.Nodup) (h : TgOk X t tg) (he : PE X l (TEv X.K W ft e)) (hs : swapsWithSole [tg] l pos.line X.env = pure false) (hw : swappedStores [tg] l X.env = pure none) : PS X (.Assign [tg] l pos) (TSv X.K W ft (.asg t e)) := by
  have h1 : (assignEach [tg] X.env).map (·.2) = [assign tg X.env] := by cases h <;> rfl
  exact (ps_asg he (s_tg hc hN h) hs hw h1).imp fun _ _ _ h => i_asg h
theorem s_asgLc {i : Nat} (h : PS X st (tAsg (TEv X.K W ft e) (gName i))) : PS X st (TSv X.K W ft (.asg (.nm i) e)) := h.imp fun _ _ _ h => i_asg (t := .nm i) h
/-- a, b = .. -/
theorem i_par {D : Ends} {σ : St} {H : Hp} {is : List Nat} {N : List V → St → Hp → Prop} (h : TSv X.K W ft (.par is el) D σ H)
    (k : ∀ {vs : List V} {H1 : Hp} {μ1 : Mu} {Ω1 : Sto} {ρ' ρ : Env} {ds : List Rf.D}, Reps X.K (Fz H1 μ1 Ω1) μ1 Ω1.length ds vs → setAll is ds ρ = some ρ' → REnv X.K (Fz H1 μ1 Ω1) μ1 Ω1.length ρ σ → (∀ σ', REnv X.K (Fz H1 μ1 Ω1) μ1 Ω1.length ρ' σ' → D.nx σ' H1) → N vs σ H1) :
    TAv X.K W ft el σ H fun vs H1 => N vs σ H1 := by
  obtain ⟨μ, Ω, ρ, at_, p⟩ := h
  refine ⟨μ, Ω, ρ, at_, (PostS.st (rel := rL X.K) at_ (show PostS X.K W H μ Ω ((evL ft el ρ Ω).st ρ fun ds Ω => match setAll is ds ρ with | some ρ' => .ok (.nx ρ') Ω | none => .bad) D from p)).mono ?_⟩
  rintro vs H1 ⟨μ1, Ω1, ds, _, ex1, r1, p1⟩
  cases eb : setAll is ds ρ with
  | none => rw [eb] at p1; exact False.elim p1
  | some ρ' =>
    rw [eb] at p1
    exact k r1 eb (at_.ext ex1).env fun σ' re' => p1 σ' H1 μ1 (Ext.refl ex1.wf) re'
theorem s_par2 {i j : Nat} {x y : Str} {a b : Expr} {px py pt pt2 : Pos} {kt k2 : Nat} (hc : X.calm = true) (hN : X.N.Nodup) (hi : X.N[i]? = some x) (hj : X.N[j]? = some y) (hij : i ≠ j) (hx : X.env.scope.names.lookup x = some .local) (hy : X.env.scope.names.lookup y = some .local)
    (ha : PA X [a, b] (TAv X.K W ft el)) (hw : swappedStores [.Tuple [.Name x px, .Name y py] kt pt] (.Tuple [a, b] k2 pt2) X.env = pure (some [x, y])) (hs : swapsWithSole [.Tuple [.Name x px, .Name y py] kt pt] (.Tuple [a, b] k2 pt2) pos.line X.env = pure false) :
    PS X (.Assign [.Tuple [.Name x px, .Name y py] kt pt] (.Tuple [a, b] k2 pt2) pos) (TSv X.K W ft (.par [i, j] el)) := by
  refine (ps_par hc hN hi hj hij hx hy ha hw hs).imp fun D σ H h => i_par (N := fun vs σ H1 => ∃ v w, vs = [v, w] ∧ D.nx ((σ.set i (some v)).set j (some w)) H1) h ?_
  intro vs H1 μ1 Ω1 ρ' ρ ds rs es re k
  match ds, rs, es with
  | [d1, d2], rs, es =>
    obtain ⟨v, w, rfl, r1, r2⟩ := rs.two'
    cases es
    exact ⟨v, w, rfl, k _ ((re.set i r1).set j r2)⟩
  | [], _, es => cases es
  | [_], _, es => cases es
  | _ :: _ :: _ :: _, _, es => cases es
theorem s_par3 {i j q : Nat} {x y z : Str} {a b c : Expr} {px py pz pt pt2 : Pos} {kt k2 : Nat} (hc : X.calm = true) (hN : X.N.Nodup) (hi : X.N[i]? = some x) (hj : X.N[j]? = some y) (hq : X.N[q]? = some z) (hij : i ≠ j) (hiq : i ≠ q) (hjq : j ≠ q)
    (hx : X.env.scope.names.lookup x = some .local) (hy : X.env.scope.names.lookup y = some .local) (hz : X.env.scope.names.lookup z = some .local)
    (ha : PA X [a, b, c] (TAv X.K W ft el)) (hw : swappedStores [.Tuple [.Name x px, .Name y py, .Name z pz] kt pt] (.Tuple [a, b, c] k2 pt2) X.env = pure (some [x, y, z])) (hs : swapsWithSole [.Tuple [.Name x px, .Name y py, .Name z pz] kt pt] (.Tuple [a, b, c] k2 pt2) pos.line X.env = pure false) :
    PS X (.Assign [.Tuple [.Name x px, .Name y py, .Name z pz] kt pt] (.Tuple [a, b, c] k2 pt2) pos) (TSv X.K W ft (.par [i, j, q] el)) := by
  refine (ps_par3 hc hN hi hj hq hij hiq hjq hx hy hz ha hw hs).imp fun D σ H h => i_par (N := fun vs σ H1 => ∃ u v w, vs = [u, v, w] ∧ D.nx (((σ.set i (some u)).set j (some v)).set q (some w)) H1) h ?_
  intro vs H1 μ1 Ω1 ρ' ρ ds rs es re k
  match ds, rs, es with
  | [d1, d2, d3], rs, es =>
    simp only [Reps] at rs
    obtain ⟨v, ws, rfl, r1, w, ws2, rfl, r2, u, ws3, rfl, r3, rfl⟩ := rs
    cases es
    exact ⟨v, w, u, rfl, k _ (((re.set i r1).set j r2).set q r3)⟩
  | [], _, es => cases es
  | [_], _, es => cases es
  | [_, _], _, es => cases es
  | _ :: _ :: _ :: _ :: _, _, es => cases es
/-- o.f = .. -/
theorem putF_rep {K : Frg} {G : Hp} {μ : Mu} {n : Nat} {f : Str} {d : D} {v : V} (rv : Rep K G μ n d v) : ∀ {fs : List (Str × D)} {ws : List (Str × V)}, RepS K G μ n fs ws → RepS K G μ n (putFD f d fs) (putF f v ws)
  | [], ws, h => by
    simp only [RepS] at h
    subst h
    show RepS K G μ n [(f, d)] [(f, v)]
    simp only [RepS]
    exact ⟨v, [], rfl, rv, rfl⟩
  | (g, x) :: r, ws, h => by
    simp only [RepS] at h
    obtain ⟨u, w', rfl, ru, rr⟩ := h
    show RepS K G μ n (if g = f then (g, d) :: r else (g, x) :: putFD f d r) (if g = f then (g, v) :: w' else (g, u) :: putF f v w')
    by_cases e : g = f
    · rw [if_pos e, if_pos e]
      simp only [RepS]
      exact ⟨v, w', rfl, rv, rr⟩
    · rw [if_neg e, if_neg e]
      simp only [RepS]
      exact ⟨u, _, rfl, ru, putF_rep rv rr⟩
theorem s_fset {f : Str} {p2 : Pos} (ha : PE X l (TEv X.K W ft a)) (he : PE X value (TEv X.K W ft e)) (hc : ∀ c, (ft.flds c).contains f = true → Cls X.K (He.ga X.K c) ∧ NoAttr X.K (He.ga X.K c) f) (hs : swapsWith value (some (.Attribute l f p2)) pos.line X.env = pure false) :
    PS X (.Assign [.Attribute l f p2] value pos) (TSv X.K W ft (.fset a f e)) := by
  refine (ps_fld ha he hs).imp fun D σ H ⟨μ, Ω, ρ, at_, p⟩ => ?_
  refine ⟨μ, Ω, ρ, at_, (PostS.st (rel := rD X.K) at_ p).mono ?_⟩
  rintro v H1 ⟨μ1, Ω1, d, _, ex1, r1, p1⟩
  have a1 := at_.ext ex1
  refine ⟨μ1, Ω1, ρ, a1, (PostS.st (rel := rD X.K) a1 p1).mono ?_⟩
  rintro u H2 ⟨μ2, Ω2, x, _, ex2, r2, p2⟩
  cases x with
  | hd k =>
    cases eo : Ω2[k]? with
    | none => simp only [eo] at p2; exact False.elim p2
    | some ob =>
      simp only [eo] at p2
      cases ob with
      | ins c fs =>
        by_cases hf : fs.length < 1000 ∧ (ft.flds c).contains f = true
        · simp only [if_pos hf] at p2
          obtain ⟨ho, h1, dx, ws, rfl, rr⟩ := ex2.wf.ob k _ eo (by intro z; cases z)
          simp only [rD, Rep] at r2
          obtain ⟨cl, na⟩ := hc c hf.2
          refine ⟨μ2 k, _, dx, ws, r2.2, h1, cl, na, by rw [repS_len rr]; exact hf.1, ?_⟩
          have al : Alive Ω2 k := ⟨_, eo, by intro z; cases z⟩
          have ex3 := Ext.put (ho := .ins (He.ga X.K c) dx (putF f v ws)) (ob := .ins c (putFD f d fs)) ex2.wf al (by intro z; cases z) ⟨dx, _, rfl, putF_rep (Rep.tr ex2.tr _ _ r1) rr⟩
          exact p2 σ _ μ2 ex3 ((a1.ext ex2).ext ex3).env
        · simp only [if_neg hf] at p2; exact False.elim p2
      | _ => exact False.elim p2
  | _ => exact False.elim p2
where
  repS_len {K : Frg} {G : Hp} {μ : Mu} {n : Nat} : ∀ {fs : List (Str × D)} {ws : List (Str × V)}, RepS K G μ n fs ws → ws.length = fs.length
    | [], ws, h => by simp only [RepS] at h; rw [h]; rfl
    | (g, x) :: r, ws, h => by
      simp only [RepS] at h
      obtain ⟨u, w', rfl, ru, rr⟩ := h
      rw [List.length_cons, List.length_cons, repS_len rr]
/-- o[i] = .. -/
theorem ps_iset {td ty tv : TE} {p2 : Pos} (hu : X.A.units + 1 < cLine) (ho : PE X o td) (hi : PE X i ty) (hv : PE X value tv) (hs : swapsWith value (some (.Subscript o i p2)) pos.line X.env = pure false) :
    PS X (.Assign [.Subscript o i p2] value pos) (fun D σ H => tv σ H fun v H1 => td σ H1 fun x H2 => ty σ H2 fun y H3 => (∃ q H4, x = .ref q ∧ DPut H3 q y v H4 ∧ D.nx σ H4) ∨ rSetL x y v H3 fun H4 => D.nx σ H4) := by
  refine ⟨fun pins s σ H D I h => ?_⟩
  refine wpAny_Assign_Subscript (thn (hv.run pins s σ H _ I h) fun r s1 ⟨v, H1, I1, rv, q1⟩ => thn (ho.run pins s1 σ H1 _ I1 q1) fun u s2 ⟨x, H2, I2, rx, q2⟩ => thn (hi.run pins s2 σ H2 _ I2 q2) fun iv s3 ⟨y, H3, I3, ry, q3⟩ => ?_) hs
  rcases q3 with ⟨q, H4, ex, g, q3⟩ | q3
  · subst ex
    obtain rfl : u = Value.ref q := rx
    exact d_setItem hu I3 g ry rv fun s4 I4 => ⟨σ, H4, I4, q3⟩
  · exact thn (set_list pins s3 σ H3 x y v u iv r _ I3 rx ry rv q3) fun _ s4 ⟨H4, I4, k⟩ => ⟨σ, H4, I4, k⟩
theorem Reps.setI {K : Frg} {G : Hp} {μ : Mu} {n : Nat} {d : D} {v : V} (rv : Rep K G μ n d v) : ∀ {xs : List D} {vs : List V} (j : Nat), Reps K G μ n xs vs → Reps K G μ n (xs.set j d) (vs.set j v)
  | [], vs, j, h => by simp only [Reps] at h; rw [h]; simpa using Reps.nil
  | x :: xs, vs, 0, h => by
    simp only [Reps] at h
    obtain ⟨u, ws, rfl, _, rs⟩ := h
    exact Reps.cons rv rs
  | x :: xs, vs, j + 1, h => by
    simp only [Reps] at h
    obtain ⟨u, ws, rfl, ru, rs⟩ := h
    exact Reps.cons ru (rs.setI rv j)
theorem s_iset {p2 : Pos} (hu : X.A.units + 1 < cLine) (ho : PE X o (TEv X.K W ft a)) (hi : PE X i (TEv X.K W ft b)) (hv : PE X value (TEv X.K W ft e)) (hs : swapsWith value (some (.Subscript o i p2)) pos.line X.env = pure false) :
    PS X (.Assign [.Subscript o i p2] value pos) (TSv X.K W ft (.iset a b e)) := by
  refine (ps_iset hu ho hi hv hs).imp fun D σ H ⟨μ, Ω, ρ, at_, p⟩ => ?_
  refine ⟨μ, Ω, ρ, at_, (PostS.st (rel := rD X.K) at_ p).mono ?_⟩
  rintro v H1 ⟨μ1, Ω1, d, _, ex1, r1, p1⟩
  have a1 := at_.ext ex1
  refine ⟨μ1, Ω1, ρ, a1, (PostS.st (rel := rD X.K) a1 p1).mono ?_⟩
  rintro u H2 ⟨μ2, Ω2, x, _, ex2, r2, p2⟩
  have a2 := a1.ext ex2
  refine ⟨μ2, Ω2, ρ, a2, (PostS.st (rel := rD X.K) a2 p2).mono ?_⟩
  rintro q H3 ⟨μ3, Ω3, y, _, ex3, r3, p3⟩
  have a3 := a2.ext ex3
  have rd := Rep.tr (ex2.trans ex3).tr _ _ r1
  have rx := Rep.tr ex3.tr _ _ r2
  cases x with
  | hd k =>
    simp only [Rep] at rx
    cases eo : Ω3[k]? with
    | none => simp only [eo] at p3; exact False.elim p3
    | some ob =>
      simp only [eo] at p3
      have al : ob ≠ .dead → Alive Ω3 k := fun h => ⟨_, eo, h⟩
      cases ob with
      | lst xs =>
        cases y with
        | int n =>
          cases ej : ixN xs.length n with
          | none => simp only [ej] at p3; exact False.elim p3
          | some j =>
            simp only [ej] at p3
            obtain ⟨al, ws, h1, rr, z⟩ := a3.wf.lst eo
            refine .inr ⟨μ3 k, ws, n, j, rx.2, view_int r3, h1, by rw [rr.length]; exact ej, ?_⟩
            have ex4 := Ext.put (ho := .lst (ws.set j v)) (ob := .lst (xs.set j d)) a3.wf al (by intro z; cases z) ⟨_, rfl, rr.setI rd j, by rw [List.length_set]; exact z⟩
            exact p3 σ _ μ3 ex4 (a3.ext ex4).env
        | _ => exact False.elim p3
      | dk kvs =>
        cases ek : keyD y with
        | none => simp only [ek] at p3; exact False.elim p3
        | some qk =>
          simp only [ek] at p3
          by_cases hz : kvs.length < big
          · simp only [if_pos hz] at p3
            obtain ⟨ho, h1, ws, rfl, rr⟩ := a3.wf.ob k _ eo (by intro z; cases z)
            refine .inl ⟨μ3 k, _, rx.2, .inl ⟨ws, qk, h1, key_rep r3 ek, by rw [rr.length, ← big_eq]; exact hz, rfl⟩, ?_⟩
            have ex4 := Ext.put (ho := .dK (putK ws qk v)) (ob := .dk (putKD kvs qk d)) a3.wf (al (by intro z; cases z)) (by intro z; cases z) ⟨_, rfl, RepK.put qk rd rr⟩
            exact p3 σ _ μ3 ex4 (a3.ext ex4).env
          · simp only [if_neg hz] at p3; exact False.elim p3
      | dt kvs =>
        cases ek : tkeyD y with
        | none => simp only [ek] at p3; exact False.elim p3
        | some qk =>
          simp only [ek] at p3
          by_cases hz : kvs.length < big
          · simp only [if_pos hz] at p3
            obtain ⟨ho, h1, ws, rfl, rr⟩ := a3.wf.ob k _ eo (by intro z; cases z)
            obtain ⟨bq, rfl, hb⟩ := tkey_view (view0 r3) ek
            refine .inl ⟨μ3 k, _, rx.2, .inr ⟨ws, qk, bq, h1, rfl, hb, by rw [rr.length, ← big_eq]; exact hz, rfl⟩, ?_⟩
            have ex4 := Ext.put (ho := .dT (putK ws qk v)) (ob := .dt (putKD kvs qk d)) a3.wf (al (by intro z; cases z)) (by intro z; cases z) ⟨_, rfl, RepT.put qk rd rr⟩
            exact p3 σ _ μ3 ex4 (a3.ext ex4).env
          · simp only [if_neg hz] at p3; exact False.elim p3
      | _ => exact False.elim p3
  | _ => exact False.elim p3
/-! ### several statements, if -/
theorem ss_nil : PSs X [] (TLv X.K W ft .nil) := pss_nil.imp fun D σ H ⟨μ, Ω, ρ, at_, p⟩ => p σ H μ (Ext.refl at_.wf) at_.env
theorem i_cons {D : Ends} {σ : St} {H : Hp} (h : TLv X.K W ft (.cons ss sl) D σ H) : tSeq (TSv X.K W ft ss) (TLv X.K W ft sl) D σ H := by
  obtain ⟨μ, Ω, ρ, at_, p⟩ := h
  refine ⟨μ, Ω, ρ, at_, ?_⟩
  have p : PostS X.K W H μ Ω (match exS ft ss ρ Ω with | .ok (.nx ρ') Ω' => exL ft sl ρ' Ω' | q => q) D := p
  cases e : exS ft ss ρ Ω with
  | bad => rw [e] at p; exact p
  | ex x ρ' Ω1 => rw [e] at p; exact p
  | ok f Ω1 =>
    rw [e] at p
    cases f with
    | nx ρ' => exact fun σ' H' μ' ex re => ⟨μ', Ω1, ρ', ⟨ex.wf, re⟩, PostS.ext ex p⟩
    | bk ρ' => exact p
    | ct ρ' => exact p
    | rt d => exact p
theorem ss_cons (h : PS X st (TSv X.K W ft ss)) (hr : PSs X sts (TLv X.K W ft sl)) : PSs X (st :: sts) (TLv X.K W ft (.cons ss sl)) := (pss_cons h hr).imp fun _ _ _ h => i_cons h
theorem s_if (hc : PT X l (TTv X.K W ft e)) (h1 : PSs X u1 (TLv X.K W ft s1)) (h2 : PSs X u2 (TLv X.K W ft s2)) : PS X (.If l u1 u2 pos) (TSv X.K W ft (.ife e s1 s2)) := by
  refine (ps_if hc h1 h2).imp fun D σ H ⟨μ, Ω, ρ, at_, p⟩ => ?_
  refine ⟨μ, Ω, ρ, at_, (PostS.st (rel := rQ) at_ p).mono ?_⟩
  rintro b H1 ⟨μ1, Ω1, b', _, ex1, r1, p1⟩
  have r1 : b' = b := r1
  subst r1
  cases b' with
  | true => exact ⟨μ1, Ω1, ρ, at_.ext ex1, p1⟩
  | false => exact ⟨μ1, Ω1, ρ, at_.ext ex1, p1⟩
/-! ### loops -/
theorem s_while (hp : PassesOwn (model X.prog X.w) X.A X.env X.xe) (hc : PT X l (TTv X.K W ft e)) (hb : PSs X sts (TLv X.K W ft sl)) : PS X (.While l sts [] pos) (TSv X.K W ft (.whl e sl)) := by
  refine (ps_while hp hc hb).imp fun D σ H ⟨μ, Ω, ρ, at_, p⟩ => ?_
  have p : PostS X.K W H μ Ω (whlD (fun ρ Ω => evT ft e ρ Ω) (fun ρ Ω => exL ft sl ρ Ω) fuel ρ Ω) D := p
  generalize fuel = n at p
  refine ⟨fun m σ2 H2 => ∃ μ2 Ω2 ρ2, Ext X.K H μ Ω H2 μ2 Ω2 ∧ REnv X.K (Fz H2 μ2 Ω2) μ2 Ω2.length ρ2 σ2 ∧ PostS X.K W H μ Ω (whlD (fun ρ Ω => evT ft e ρ Ω) (fun ρ Ω => exL ft sl ρ Ω) m ρ2 Ω2) D, ⟨n, μ, Ω, ρ, Ext.refl at_.wf, at_.env, p⟩, ?_⟩
  rintro m σ2 H2 ⟨μ2, Ω2, ρ2, ex2, re2, p2⟩
  cases m with
  | zero => exact False.elim p2
  | succ m =>
    have a2 : At X.K σ2 H2 μ2 Ω2 ρ2 := ⟨ex2.wf, re2⟩
    have p2 : PostS X.K W H2 μ2 Ω2 ((evT ft e ρ2 Ω2).st ρ2 fun b Ω => if b then (match exL ft sl ρ2 Ω with
      | .ok (.nx ρ') Ω' => whlD (fun ρ Ω => evT ft e ρ Ω) (fun ρ Ω => exL ft sl ρ Ω) m ρ' Ω'
      | .ok (.ct ρ') Ω' => whlD (fun ρ Ω => evT ft e ρ Ω) (fun ρ Ω => exL ft sl ρ Ω) m ρ' Ω'
      | .ok (.bk ρ') Ω' => .ok (.nx ρ') Ω'
      | r => r) else .ok (.nx ρ2) Ω) D := PostS.ext ex2 p2
    refine ⟨μ2, Ω2, ρ2, a2, (PostS.st (rel := rQ) a2 p2).mono ?_⟩
    rintro b H3 ⟨μ3, Ω3, b', ee, ex3, r3, p3⟩
    have r3 : b' = b := r3
    subst r3
    have a3 := a2.ext ex3
    cases b' with
    | false =>
      refine Eq.mpr (if_neg (by decide)) ?_
      exact p3 σ2 H3 μ3 (Ext.refl a3.wf) a3.env
    | true =>
      refine Eq.mpr (if_pos rfl) ?_
      refine ⟨fun σ' H' => ∃ μ2 Ω2 ρ2, Ext X.K H μ Ω H' μ2 Ω2 ∧ REnv X.K (Fz H' μ2 Ω2) μ2 Ω2.length ρ2 σ' ∧ PostS X.K W H μ Ω (whlD (fun ρ Ω => evT ft e ρ Ω) (fun ρ Ω => exL ft sl ρ Ω) m ρ2 Ω2) D, fun σ' H' h => ⟨m, Nat.lt_succ_self _, h⟩, μ3, Ω3, ρ2, a3, ?_⟩
      have p2' : PostS X.K W H μ Ω ((evT ft e ρ2 Ω2).st ρ2 fun b Ω => if b then (match exL ft sl ρ2 Ω with
        | .ok (.nx ρ') Ω' => whlD (fun ρ Ω => evT ft e ρ Ω) (fun ρ Ω => exL ft sl ρ Ω) m ρ' Ω'
        | .ok (.ct ρ') Ω' => whlD (fun ρ Ω => evT ft e ρ Ω) (fun ρ Ω => exL ft sl ρ Ω) m ρ' Ω'
        | .ok (.bk ρ') Ω' => .ok (.nx ρ') Ω'
        | r => r) else .ok (.nx ρ2) Ω) D := by assumption
      rw [ee] at p2'
      simp only [R.st, if_true] at p2' p3
      cases eb : exL ft sl ρ2 Ω3 with
      | bad => rw [eb] at p3; exact p3
      | ex x ρ' Ω4 => rw [eb] at p3; exact p3
      | ok f Ω4 =>
        rw [eb] at p3 p2'
        cases f with
        | nx ρ' => exact fun σ' H' μ' ex re => ⟨μ', Ω4, ρ', (ex2.trans ex3).trans ex, re, p2'⟩
        | ct ρ' => exact fun σ' H' μ' ex re => ⟨μ', Ω4, ρ', (ex2.trans ex3).trans ex, re, p2'⟩
        | bk ρ' => exact p3
        | rt d => exact p3
theorem s_for (hp : PassesOwn (model X.prog X.w) X.A X.env X.xe) (hc : X.calm = true) (hi : PI X tg iter (TIv X.K W ft sr)) (hg : PG X tg (TGv X.K t)) (hb : PSs X sts (TLv X.K W ft sl)) (hs : ∀ x, foldedSetIterable iter X.env x = pure x) :
    PS X (.For tg iter sts [] pos) (TSv X.K W ft (.for t sr sl)) := by
  refine (ps_for hp hc hi hg hb hs).imp fun D σ H ⟨μ, Ω, ρ, at_, p⟩ => ?_
  refine ⟨μ, Ω, ρ, at_, (PostS.st (rel := rI X.K) at_ p).mono ?_⟩
  rintro J H1 ⟨μ1, Ω1, xs, _, ex1, rJ, p1⟩
  have a1 := at_.ext ex1
  let turn : Rf.D → Env → Sto → RS := fun d ρ Ω => match bindT t d ρ with
    | some ρ' => exL ft sl ρ' Ω
    | none => .bad
  have p1 : PostS X.K W H1 μ1 Ω1 (forD turn xs ρ Ω1) D := p1
  refine ⟨fun i m σ2 H2 => m = xs.length - i ∧ i ≤ xs.length ∧ ∃ μ2 Ω2 ρ2, Ext X.K H1 μ1 Ω1 H2 μ2 Ω2 ∧ REnv X.K (Fz H2 μ2 Ω2) μ2 Ω2.length ρ2 σ2 ∧ PostS X.K W H1 μ1 Ω1 (forD turn (xs.drop i) ρ2 Ω2) D, ⟨_, rfl, Nat.zero_le _, μ1, Ω1, ρ, Ext.refl a1.wf, a1.env, p1⟩, ?_⟩
  rintro i m σ2 H2 ⟨hm, hi, μ2, Ω2, ρ2, ex2, re2, p2⟩
  by_cases hlt : i < xs.length
  · have hdr : xs.drop i = xs[i] :: xs.drop (i + 1) := List.drop_eq_getElem_cons hlt
    rw [hdr] at p2
    have hd : xs[i]? = some xs[i] := List.getElem?_eq_getElem hlt
    generalize xs[i] = d at p2 hd
    refine .inr ⟨rJ.go i H2 μ2 Ω2 ex2.lat hlt, fun σ' H' => ∃ μ2 Ω2 ρ2, Ext X.K H1 μ1 Ω1 H' μ2 Ω2 ∧ REnv X.K (Fz H' μ2 Ω2) μ2 Ω2.length ρ2 σ' ∧ PostS X.K W H1 μ1 Ω1 (forD turn (xs.drop (i + 1)) ρ2 Ω2) D, fun σ' H' h => ⟨xs.length - (i + 1), by omega, rfl, hlt, h⟩, ?_⟩
    intro x H' hy
    obtain ⟨_, ex3, rx⟩ := rJ.yld i H2 μ2 Ω2 x H' d ex2.lat hd hy
    have p2 : PostS X.K W H1 μ1 Ω1 (match turn d ρ2 Ω2 with
      | .ok (.nx ρ') Ω' => forD turn (xs.drop (i + 1)) ρ' Ω'
      | .ok (.ct ρ') Ω' => forD turn (xs.drop (i + 1)) ρ' Ω'
      | .ok (.bk ρ') Ω' => .ok (.nx ρ') Ω'
      | r => r) D := p2
    cases eb : bindT t d ρ2 with
    | none =>
      have : turn d ρ2 Ω2 = .bad := by show (match bindT t d ρ2 with | some ρ' => exL ft sl ρ' Ω2 | none => .bad) = .bad; rw [eb]
      rw [this] at p2
      exact False.elim p2
    | some ρ3 =>
      have et : turn d ρ2 Ω2 = exL ft sl ρ3 Ω2 := by show (match bindT t d ρ2 with | some ρ' => exL ft sl ρ' Ω2 | none => .bad) = _; rw [eb]
      rw [et] at p2
      refine bind_tg eb rx (re2.tr ex3.tr) fun σ3 re3 _ => ⟨μ2, Ω2, ρ3, ⟨ex3.wf, re3⟩, ?_⟩
      have exA := ex2.trans ex3
      cases ee : exL ft sl ρ3 Ω2 with
      | bad => rw [ee] at p2; exact p2
      | ex x ρ' Ω4 => rw [ee] at p2; exact PostS.ext exA p2
      | ok f Ω4 =>
        rw [ee] at p2
        cases f with
        | nx ρ' => exact fun σ' H' μ' ex re => ⟨μ', Ω4, ρ', exA.trans ex, re, p2⟩
        | ct ρ' => exact fun σ' H' μ' ex re => ⟨μ', Ω4, ρ', exA.trans ex, re, p2⟩
        | bk ρ' => exact PostS.ext exA p2
        | rt d => exact PostS.ext exA p2
  · have hie : i = xs.length := by omega
    subst hie
    rw [List.drop_length] at p2
    exact .inl ⟨rJ.stop _ H2 μ2 Ω2 ex2.lat (Nat.le_refl _), p2 σ2 H2 μ2 ex2 re2⟩
end
end Rf
end
section
namespace Rf
open PySem PySem.Spec PyProof.Rows L2
/-! ### set(a list), whatever its things are: J i tells the set at S when i of them are in -/
structure Grow (P : Program) (w : World) (h0 : Heap) (S : Addr) (items : Array Value) (J : Nat → Heap → Prop) : Prop where
  keep : ∀ i h h', J i h → (∀ o, h.get? S = some o → h'.get? S = some o) → (∀ b o, h0.get? b = some o → h'.get? b = some o) → J i h'
  step : ∀ (i : Nat) (v : Value) (A : Around) (E : Value → Shared → Prop) (s : Shared) (Q : Bool → Shared → Prop), A.units < cLine → items[i]? = some v → J i s.heap → (∀ b o, h0.get? b = some o → s.heap.get? b = some o) →
    (∀ b h' tk, s.toks ≤ tk → Heap.SameBut S s.heap h' → J (i + 1) h' → Q b { s with heap := h', toks := tk }) → wpAny (model P w) A (setAdd S v) Q E s
section
variable {P : Program} {w : World} {A : Around} {E : Value → Shared → Prop} {s : Shared}
theorem grow_loop {I : Addr} {fp wr : List Addr} {G : Array GenState → Array GenState → Prop} {n : Nat} {Pv : Nat → Value → Prop} {St : Nat → Shared → Prop} {R : Result → Shared → Prop} {items : Array Value} {J : Nat → Heap → Prop} {h0 : Heap} {S : Addr}
    (W : WalksS P w A.in1 I fp wr G n Pv St) (hSf : S ∉ fp) (Gw : Grow P w h0 S items J) (hn : n = items.size) (hval : ∀ i v, Pv i v → items[i]? = some v) (hS0 : h0.get? S = none) (hw0 : ∀ b ∈ wr, h0.get? b = none) (hu : A.in1.units < cLine) :
    ∀ (k i : Nat) (s : Shared), n - i = k → i ≤ n → St i s → (∀ b o, h0.get? b = some o → s.heap.get? b = some o) → J i s.heap →
      (∀ s', Moved (S :: wr) G s s' → J n s'.heap → (∀ b o, h0.get? b = some o → s'.heap.get? b = some o) → R (.ok (.ret .none)) s') →
      codeAny (model P w) A (.builtin "set.update.loop" ⟨[.ref S, .ref I], []⟩) R s := by
  have nSw : S ∉ wr := fun z => hSf (W.sub _ z)
  have sub : ∀ b ∈ wr, b ∈ S :: wr := fun b z => List.mem_cons_of_mem _ z
  have still : ∀ {s s' : Shared}, Moved wr G s s' → (∀ b o, h0.get? b = some o → s.heap.get? b = some o) → ∀ b o, h0.get? b = some o → s'.heap.get? b = some o := fun mv kp b o e =>
    mv.heap b o (fun z => by rw [hw0 b z] at e; cases e) (kp b o e)
  intro k
  induction k with
  | zero =>
    intro i s e hi st kp j hR
    obtain rfl : i = n := by omega
    refine codeAny_builtin F.entry_set_update_loop ?_
    rw [Around.under_plainId F.plain_set_update_loop _]
    show wpAny _ A.in1 (pyNext (.ref I) >>= _) _ _ s
    refine wpAny_bind (W.done s _ _ st fun s' mv => ?_)
    show wpAny _ A.in1 (ret Value.none) _ _ s'
    exact wpAny_pure (hR s' (mv.mono sub) (Gw.keep _ _ _ j (fun o e => mv.heap S o nSw e) (still mv kp)) (still mv kp))
  | succ k ih =>
    intro i s e hi st kp j hR
    have lt : i < n := by omega
    refine codeAny_builtin F.entry_set_update_loop ?_
    rw [Around.under_plainId F.plain_set_update_loop _]
    show wpAny _ A.in1 (pyNext (.ref I) >>= _) _ _ s
    refine wpAny_bind (W.item i s _ _ lt st fun v s' hP st' mv => ?_)
    have kp1 := still mv kp
    show wpAny _ A.in1 (holding [v] (setAdd S v) >>= _) _ _ s'
    refine wpAny_bind (wpAny_holding ?_)
    refine Gw.step i v A.in1 _ s' _ hu (hval i v hP) (Gw.keep _ _ _ j (fun o e => mv.heap S o nSw e) kp1) kp1 fun b h' tk le sb j2 => ?_
    have kp2 : ∀ b o, h0.get? b = some o → h'.get? b = some o := fun b o e => (sb.2 b (fun z => by rw [z, hS0] at e; cases e)).trans (kp1 b o e)
    refine wpAny_pure ⟨plainId_quiet F.plain_set_update_loop _, ih (i + 1) _ (by omega) lt (W.frame _ s' _ _ st' le fun b hb o e => ?_) kp2 j2 fun s'' mv2 j3 kp3 => ?_⟩
    · rw [sb.2 b (fun z : b = S => hSf (by rw [← z]; exact hb))]; exact e
    · refine hR s'' (Moved.trans W.gtrans ((mv.mono sub).then_heap le fun b o hb e => ?_) mv2) j3 kp3
      rw [sb.2 b (fun z : b = S => hb (by rw [z]; exact List.mem_cons_self))]; exact e
abbrev set0 (w : World) : Obj := { cls := .type "set", dict := none, data := .set #[] 0 (.fresh 0 0 (!w.params.followText "set-order")) }
theorem set_gen {l : Addr} {items : Array Value} {J : Nat → Heap → Prop} {Q : Value → Shared → Prop} (hh : A.handled = none) (hl : s.heap.IsList l items) (Gw : Grow P w s.heap s.heap.objs.size items J) (hu : A.units + 3 < cLine)
    (j0 : ∀ h', h'.get? s.heap.objs.size = some (set0 w) → (∀ b o, s.heap.get? b = some o → h'.get? b = some o) → J 0 h')
    (hQ : ∀ (h' : Heap) (tk : Nat), J items.size h' → (∀ b o, s.heap.get? b = some o → h'.get? b = some o) → Q (.ref s.heap.objs.size) { s with heap := h', toks := tk }) :
    wpAny (model P w) A (call (.type "set") [.ref l]) Q E s := by
  obtain ⟨c, tl, hmro⟩ := F.called_set.mro
  have hmade := F.called_set.made
  have hsub := F.called_set.sub
  refine wpAny_call (codeAny_of_tree ?_)
  show wpAny _ _ (callAny (.type "set") _) _ _ _
  refine wpAny_pure ⟨Code.quiet_builtin _ (by decide +kernel), codeAny_builtin F.entry_type_call ?_⟩
  rw [Around.under_plain (weight_type_call_type "set" [.ref l] []) rfl]
  have hnt := F.called_set.notType
  have hcc := F.called_set.canCreate
  have hct := F.typeCall_set_1 (.ref l)
  repeat (any_goals (first | assumption | wp_step))
  refine codeAny_mono (code_set_led1 (.ref l) (E := E) (Q₁ := fun obj s₁ => obj = .ref s.heap.objs.size ∧ s₁ = { s with heap := s.heap.push (set0 w) }) ⟨rfl, rfl⟩) fun r s₁ hr => ?_
  cases r with
  | error e => exact hr
  | ok fl =>
    cases fl with
    | ret obj =>
      obtain ⟨rfl, rfl⟩ := hr
      have hS : (s.heap.push (set0 w)).get? s.heap.objs.size = some (set0 w) := Heap.get?_push_size _ rfl
      have hT : Shared.TypeIs { s with heap := s.heap.push (set0 w) } (.ref s.heap.objs.size) "set" := ⟨_, hS, rfl⟩
      have hli := F.called_set.init.lookup
      have hbi := F.called_set.init.bind (.ref s.heap.objs.size)
      repeat (any_goals (first | assumption | wp_step))
      refine codeAny_mono (codeAny_call_builtin (R := wants (fun r s₂ => r = .none ∧ ∃ h' tk, s₂ = { s with heap := h', toks := tk } ∧ J items.size h' ∧ (∀ b o, s.heap.get? b = some o → h'.get? b = some o)) E) F.called_set.init.plain F.entry_set_init (check_set_init_1 hT ?_)) fun r₂ s₂ hr₂ => ?_
      · obtain ⟨ol, hol, hcl, nl, hdl⟩ := hl
        obtain ⟨ocls, odict, odata, oslots⟩ := ol
        simp only at hcl hdl
        subst hcl; subst hdl
        have hol' : (s.heap.push (set0 w)).get? l = some { cls := .type "list", dict := odict, data := .seq items nl, slots := oslots } := Heap.get?_push_of_some _ hol
        have hsls := F.sub_list_set
        have hslf := F.sub_list_frozenset
        have hne : (Value.type "list" == Value.type "dict") = false := by decide
        have hl1 : (s.heap.push (set0 w)).IsList l items := ⟨_, hol', rfl, nl, rfl⟩
        unfold Builtin.«set.__init__» noKeywords Builtin.Frozenset.updateFrom
        generalize hPI : pyIter = PI
        wp_walk
        subst hPI
        refine wpAny_pyIter_list hl1 ?_
        refine wpAny_bind (wpAny_runValue ?_)
        have lS : l < s.heap.objs.size := Heap.lt_size hol
        have hh3 : A.in1.in1.in1.handled = none := by simp [hh]
        have neI : l ≠ (s.heap.push (set0 w)).objs.size := by rw [Heap.size_push]; exact Nat.ne_of_lt (Nat.lt_succ_of_lt lS)
        have nSf : s.heap.objs.size ∉ [(s.heap.push (set0 w)).objs.size, l] := by
          rw [Heap.size_push]; simp only [List.mem_cons, List.mem_singleton, List.not_mem_nil, or_false, not_or]
          exact ⟨Nat.ne_of_lt (Nat.lt_succ_self _), Nat.ne_of_gt lS⟩
        have far : ∀ b, s.heap.objs.size ≤ b → s.heap.get? b = none := fun b hb => by
          cases q : s.heap.get? b with
          | none => rfl
          | some o => exact absurd (Nat.lt_of_lt_of_le (Heap.lt_size q) hb) (Nat.lt_irrefl _)
        have kp0 : ∀ b o, s.heap.get? b = some o → ((s.heap.push (set0 w)).push { cls := .type "list_iterator", data := .fields #[.ref l, .int 0 0] }).get? b = some o := fun b o e => Heap.get?_push_of_some _ (Heap.get?_push_of_some _ e)
        refine grow_loop ((Walks.list hh3 _ l neI items).toS) nSf Gw rfl (fun i v h => h) (far _ (Nat.le_refl _)) (fun b hb => far b (by
            rw [List.mem_singleton.mp hb, Heap.size_push]
            exact Nat.le_succ _)) hu (items.size - 0) 0 _ (by omega) (Nat.zero_le _)
          ⟨⟨_, Heap.get?_push_size _ rfl, rfl, rfl⟩, (hl1.push _)⟩ kp0 (j0 _ (Heap.get?_push_of_some _ hS) kp0) ?hR
        case hR =>
          intro s' mv j kp
          obtain ⟨h', g2, d', tk', os'⟩ := s'
          have eg : g2 = s.gens := mv.gens
          have ed : d' = s.drawn := mv.drawn
          have eo : os' = s.os := mv.os
          subst eg; subst ed; subst eo
          show wpAny _ _ _ _ _ _
          refine wpAny_pure ?_
          show wpAny _ _ (ret Value.none) _ _ _
          exact wpAny_pure ⟨rfl, h', tk', rfl, j, kp⟩
      · cases r₂ with
        | error e => exact hr₂
        | ok fl₂ =>
          cases fl₂ with
          | ret r =>
            obtain ⟨rfl, h', tk, rfl, j, kp⟩ := hr₂
            repeat (any_goals (first | assumption | wp_step))
            exact hQ _ _ j kp
          | _ => exact hr₂.elim
    | _ => exact hr.elim
end
end Rf
end
section
namespace Rf
open PySem PySem.Spec PyProof.Rows L2
/-! ### sets of texts -/
def skey (e : Int × Value) : Str := match e.2 with | .str k _ => k | _ => Str.empty
def GoodS (w : World) (e : Int × Value) : Prop := ∃ k tk, e.2 = Value.str k tk ∧ e.1 = hashStr w k
/-- the set at a has the texts of l, each once -/
def SetS (w : World) (h : Heap) (a : Addr) (l : List Str) : Prop :=
  ∃ o es ep t, h.get? a = some o ∧ o.ExactSet ∧ o.data = .set es ep t ∧ (∀ e ∈ es.toList, GoodS w e) ∧ (es.toList.map skey).Perm l ∧ l.Nodup ∧ es.size < scanBound ∧ t.fits es.size = true ∧ Ris t.place.toList ∧ (w.params.followText "set-order" = true ∨ t.led = true)
section
variable {P : Program} {w : World} {A : Around} {E : Value → Shared → Prop} {s : Shared} {a : Addr} {l : List Str}
theorem goodS_elems {es : List (Int × Value)} (g : ∀ e ∈ es, GoodS w e) : ElemsOf (strKind P w) es := fun e he => by
  obtain ⟨k, tk, h1, h2⟩ := g e he
  exact ⟨⟨k, by rw [h1]; exact strKind_is P w k tk, h2⟩, by rw [h1] <;> rfl⟩
theorem goodS_is {e : Int × Value} (g : GoodS w e) (k : Str) : (strKind P w).is k e.2 = true ↔ skey e = k := by
  obtain ⟨k0, tk, h1, _⟩ := g
  unfold skey
  rw [h1]
  constructor
  · intro h
    obtain ⟨t, e⟩ := Value.isStrOf_shape (x := k) (v := Value.str k0 tk) h
    cases e
    rfl
  · intro h
    have h : k0 = k := h
    subst h
    exact strKind_is P w k0 tk
theorem goodS_mem {es : List (Int × Value)} (g : ∀ e ∈ es, GoodS w e) (k : Str) : k ∈ es.map skey ↔ ∃ e ∈ es, (strKind P w).is k e.2 = true := by
  rw [List.mem_map]
  constructor
  · rintro ⟨e, he, q⟩
    exact ⟨e, he, (goodS_is (g e he) k).2 q⟩
  · rintro ⟨e, he, q⟩
    exact ⟨e, he, (goodS_is (g e he) k).1 q⟩
theorem setS_tail {g : Bool → Sem Unit} (hg : ∀ (b : Bool) (s₁ : Shared) (Q' : Unit → Shared → Prop), Q' () s₁ → wpAny (model P w) A (g b) Q' E s₁)
    {o : Obj} {es : Array (Int × Value)} {ep : Nat} {t : SetTable} (ho : s.heap.get? a = some o) (hex : o.ExactSet) (hd : o.data = .set es ep t)
    {es1 : Array (Int × Value)} {t2 : SetTable} {l' : List Str} (g1 : ∀ e ∈ es1.toList, GoodS w e) (p1 : (es1.toList.map skey).Perm l') (nd : l'.Nodup)
    (hb : es1.size < scanBound) (hf : t2.fits es1.size = true) (hr : Ris t2.place.toList) (hl : w.params.followText "set-order" = true ∨ t2.led = true) {wasDummy : Bool} {R : Option Bool → Shared → Prop}
    (hR : ∀ h', Heap.SameBut a s.heap h' → SetS w h' a l' → R (some true) { s with heap := h' }) :
    wpAny (model P w) A (do
        storeSet a es1 t2
        if (!wasDummy && t2.tooFull) = true then do
            g (relayAll t2 es1 (SetTable.grown es1.size)).2.2
            storeSet a (relayAll t2 es1 (SetTable.grown es1.size)).1 (relayAll t2 es1 (SetTable.grown es1.size)).2.1
            pure (some true)
          else pure (some true)) R E s := by
  have st1 := L2.store_at (es' := es1) (t' := t2) ho hd
  have sb := Heap.SameBut.update s.heap a (Obj.putSet es1 t2)
  refine wpAny_bind (wpAny_storeSet_of ho hd ?_ (fits_of_scanBound hb))
  split
  · have pm := relayAll_perm t2 es1 (SetTable.grown es1.size)
    have f3 := relayAll_fits t2 es1 (SetTable.grown es1.size)
    have r3 := relayAll_ris t2 es1 (SetTable.grown es1.size)
    have l3 := relayAll_led t2 es1 (SetTable.grown es1.size)
    generalize relayAll t2 es1 (SetTable.grown es1.size) = Z at pm f3 r3 l3 ⊢
    obtain ⟨es2, t3, gave⟩ := Z
    dsimp only at pm f3 r3 l3 ⊢
    have sz : es2.size = es1.size := by rw [← Array.length_toList, pm.length_eq, Array.length_toList]
    have b2 : es2.size < scanBound := by rw [sz]; exact hb
    refine wpAny_bind (hg _ _ _ (wpAny_bind (wpAny_storeSet_of st1 rfl ?_ (fits_of_scanBound b2))))
    have st2 := L2.store_at (es' := es2) (t' := t3) st1 rfl
    refine wpAny_pure (hR _ (sb.trans (Heap.SameBut.update _ a _)) ⟨_, es2, _, t3, st2, hex, rfl, fun e he => g1 e (pm.mem_iff.mp he), (pm.map skey).trans p1, nd, b2, f3, r3, ?_⟩)
    exact hl.imp id fun z => by rw [l3]; exact z
  · exact wpAny_pure (hR _ sb ⟨_, es1, _, t2, st1, hex, rfl, g1, p1, nd, hb, hf, hr, hl⟩)
theorem setS_add {k : Str} {tk : Tok} {Q : Bool → Shared → Prop} (R : SetS w s.heap a l) (room : l.length + 1 < scanBound)
    (hQ : ∀ b h', Heap.SameBut a s.heap h' → SetS w h' a (if k ∈ l then l else k :: l) → Q b { s with heap := h' }) :
    wpAny (model P w) A (setAddHashed a (.str k tk) ((strKind P w).hash k)) Q E s := by
  obtain ⟨o, es, ep, t, ho, hex, hd, g, pl, nd, hb, hf, hr, hl⟩ := R
  have isk : (strKind P w).is k (.str k tk) = true := strKind_is P w k tk
  have sck : (Value.str k tk).scannable = true := rfl
  have els : ElemsOf (strKind P w) es.toList := goodS_elems g
  unfold setAddHashed setAddHashedIn
  refine wpAny_holding (wpAny_bind (wpAny_setState_of ho hd hf ?_))
  dsimp only
  rw [byScan_of sck hb els]
  simp only [↓reduceIte]
  unfold setAddByScan
  refine wpAny_bind ?_
  refine wpAny_bind (wpAny_rule ?_)
  refine wpAny_bind (wpAny_setScan_of isk ho hd hf els ?_)
  cases fi : List.findIdx? (fun e => (strKind P w).is k e.2) es.toList with
  | some j =>
    dsimp only
    obtain ⟨hj, pj, _⟩ := List.findIdx?_eq_some_iff_getElem.mp fi
    have mk : k ∈ l := pl.mem_iff.mp ((goodS_mem (P := P) (w := w) g k).2 ⟨es.toList[j], List.getElem_mem hj, pj⟩)
    refine wpAny_pure (wpAny_pure (hQ _ s.heap (Heap.SameBut.refl a s.heap) ?_))
    rw [if_pos mk]
    exact ⟨o, es, ep, t, ho, hex, hd, g, pl, nd, hb, hf, hr, hl⟩
  | none =>
    dsimp only
    have nk : k ∉ l := fun z => by
      obtain ⟨e, he, q⟩ := (goodS_mem (P := P) (w := w) g k).1 (pl.mem_iff.mpr z)
      have c := List.findIdx?_eq_none_iff.mp fi e he
      rw [q] at c
      cases c
    have way : ∀ (b : Bool) {s₁ : Shared} {Q' : Unit → Shared → Prop}, Q' () s₁ → wpAny (model P w) A (match b with | true => rule "set.scan.the-table-gave-way" | false => pure ()) Q' E s₁ :=
      fun b s₁ Q' q => by cases b <;> first | exact wpAny_pure q | exact wpAny_rule q
    have pm := layNew_perm t es ((strKind P w).hash k) (.str k tk)
    have f1 := layNew_fits t es ((strKind P w).hash k) (.str k tk)
    have r1 := layNew_ris t es ((strKind P w).hash k) (.str k tk) hr
    have l1 := layNew_led t es ((strKind P w).hash k) (.str k tk)
    generalize layNew t es ((strKind P w).hash k) (.str k tk) = Z at pm f1 r1 l1 ⊢
    obtain ⟨es1, t1, wasDummy, gave⟩ := Z
    dsimp only at pm f1 r1 l1 ⊢
    rw [Array.toList_push] at pm
    have pc : es1.toList.Perm (((strKind P w).hash k, Value.str k tk) :: es.toList) := pm.trans (List.perm_append_singleton _ _)
    have pk : (es1.toList.map skey).Perm (k :: l) := (pc.map skey).trans (List.Perm.cons k pl)
    have g1 : ∀ e ∈ es1.toList, GoodS w e := fun e he => by
      rcases List.mem_cons.mp (pc.mem_iff.mp he) with z | z
      · rw [z]; exact ⟨k, tk, rfl, rfl⟩
      · exact g e z
    have nd1 : (k :: l).Nodup := List.nodup_cons.mpr ⟨nk, nd⟩
    have el : es.size = l.length := by
      have q := pl.length_eq
      rw [List.length_map, Array.length_toList] at q
      exact q
    have sz : es1.size = l.length + 1 := by rw [← Array.length_toList, pc.length_eq, List.length_cons, Array.length_toList, el]
    have b1 : es1.size < scanBound := by rw [sz]; exact room
    have led1 : w.params.followText "set-order" = true ∨ t1.led = true := hl.imp id fun z => by rw [l1]; exact z
    have fin : ∀ h', Heap.SameBut a s.heap h' → SetS w h' a (k :: l) → Q true { s with heap := h' } := fun h' sb r => hQ true h' sb (by rw [if_neg nk]; exact r)
    refine wpAny_bind (way _ ?_)
    split
    · refine wpAny_bind ?_
      rw [hashByValue_scannable 8 sck]
      refine wpAny_pure ?_
      refine setS_tail ?_ ho hex hd g1 pk nd1 b1 ?_ ?_ ?_ ?_
      · intro b s₁ Q' q; cases b <;> first | exact wpAny_pure q | exact wpAny_rule q
      · first | (split <;> first | exact f1 | exact SetTable.fits_plain_off f1) | exact f1
      · first | (split <;> exact r1) | exact r1
      · first | (split <;> exact led1) | exact led1
      · intro h' sb r; dsimp only; exact wpAny_pure (fin h' sb r)
    · refine wpAny_bind (wpAny_pure ?_)
      simp only [↓reduceIte]
      refine setS_tail ?_ ho hex hd g1 pk nd1 b1 f1 r1 led1 ?_
      · intro b s₁ Q' q; cases b <;> first | exact wpAny_pure q | exact wpAny_rule q
      · intro h' sb r; dsimp only; exact wpAny_pure (fin h' sb r)
theorem setS_fresh {h : Heap} (ho : h.get? a = some (set0 w)) : SetS w h a [] := by
  refine ⟨_, #[], 0, _, ho, ⟨rfl, rfl, rfl⟩, rfl, fun e he => by simp at he, by simp, List.nodup_nil, by decide, ?_, ?_, ?_⟩
  · rfl
  · exact List.Pairwise.nil
  · cases w.params.followText "set-order" with
    | true => exact .inl rfl
    | false => exact .inr rfl
theorem SetS.at_ {h h' : Heap} (R : SetS w h a l) (k : ∀ o, h.get? a = some o → h'.get? a = some o) : SetS w h' a l := by
  obtain ⟨o, es, ep, t, ho, r⟩ := R
  exact ⟨o, es, ep, t, k o ho, r⟩
theorem once_mem {α : Type} [DecidableEq α] : ∀ (xs : List α) (x : α), x ∈ once xs ↔ x ∈ xs
  | [], x => by simp [once]
  | y :: xs, x => by
    unfold once
    by_cases h : y ∈ once xs
    · rw [if_pos h, once_mem xs x, List.mem_cons]
      constructor
      · exact .inr
      · rintro (e | e)
        · rw [e]; exact (once_mem xs y).mp h
        · exact e
    · rw [if_neg h, List.mem_cons, List.mem_cons, once_mem xs x]
theorem once_len {α : Type} [DecidableEq α] : ∀ xs : List α, (once xs).length ≤ xs.length
  | [] => Nat.le_refl _
  | y :: xs => by
    unfold once
    by_cases h : y ∈ once xs
    · rw [if_pos h]; exact Nat.le_succ_of_le (once_len xs)
    · rw [if_neg h]; exact Nat.succ_le_succ (once_len xs)
theorem once_nodup {α : Type} [DecidableEq α] : ∀ xs : List α, (once xs).Nodup
  | [] => List.nodup_nil
  | y :: xs => by
    unfold once
    by_cases h : y ∈ once xs
    · rw [if_pos h]; exact once_nodup xs
    · rw [if_neg h]; exact List.nodup_cons.mpr ⟨h, once_nodup xs⟩
theorem growS {h0 : Heap} {S : Addr} {items : Array Value} {xs : List Str} (hi : StrsAre items.toList xs) (h64 : xs.length < 64) : Grow P w h0 S items (fun i h => SetS w h S (once (xs.take i).reverse)) where
  keep := fun i h h' j k _ => j.at_ k
  step := fun i v A E s Q hu hv j kp hQ => by
    have hv' : items.toList[i]? = some v := by rw [Array.getElem?_toList]; exact hv
    obtain ⟨k, tk, ek, rfl⟩ : ∃ k tk, xs[i]? = some k ∧ v = Value.str k tk := by
      clear hv j hQ h64
      generalize items.toList = vs at hi hv'
      induction hi generalizing i with
      | nil => simp at hv'
      | cons x t r ih =>
        cases i with
        | zero => simp at hv'; exact ⟨_, _, rfl, hv'.symm⟩
        | succ i => exact ih i (by simpa using hv')
    have hl : i < xs.length := (List.getElem?_eq_some_iff.mp ek).1
    unfold setAdd
    refine wpAny_holding ?_
    refine wpAny_bind ((strKind P w).pyHash (strKind_is P w k tk) ?_)
    refine setS_add (s := { s with toks := s.toks + 1 }) j ?_ fun b h' sb r => hQ b h' (s.toks + 1) (Nat.le_succ _) sb ?_
    · have := once_len (xs.take i).reverse
      rw [List.length_reverse, List.length_take] at this
      have h2 : min i xs.length ≤ i := Nat.min_le_left _ _
      unfold scanBound
      omega
    · have e : (xs.take (i + 1)).reverse = k :: (xs.take i).reverse := by
        rw [List.take_succ, ek]
        simp
      rw [e]
      exact r
/-- set(a list of texts) -/
theorem call_setS {l : Addr} {items : Array Value} {xs : List Str} {Q : Value → Shared → Prop} (hh : A.handled = none) (hl : s.heap.IsList l items) (hi : StrsAre items.toList xs) (h64 : xs.length < 64) (hu : A.units + 3 < cLine)
    (hQ : ∀ (h' : Heap) (tk : Nat) (ys : List Str), SetS w h' s.heap.objs.size ys → ys.Nodup → (∀ x, x ∈ ys ↔ x ∈ xs) → ys.length < 64 → (∀ b o, s.heap.get? b = some o → h'.get? b = some o) → Q (.ref s.heap.objs.size) { s with heap := h', toks := tk }) :
    wpAny (model P w) A (call (.type "set") [.ref l]) Q E s := by
  have hsz : items.size = xs.length := by
    rw [← Array.length_toList]
    exact hi.length
  refine set_gen hh hl (growS hi h64) hu (fun h' e _ => ?_) fun h' tk j kp => hQ h' tk _ j (once_nodup _) (fun x => ?_) ?_ kp
  · show SetS w h' _ (once (xs.take 0).reverse)
    exact setS_fresh e
  · rw [once_mem, hsz, List.take_length, List.mem_reverse]
  · rw [hsz, List.take_length]
    have := once_len xs.reverse
    rw [List.length_reverse] at this
    omega
/-- sorted(a set of texts) -/
theorem sorted_setS {l : List Str} {Q : Value → Shared → Prop} (R : SetS w s.heap a l) (hh : A.handled = none) (h64 : l.length < 64)
    (hQ : ∀ s' p (out : Array Value) (c : Nat) (ys : List Str), (∀ b o, s.heap.get? b = some o → s'.heap.get? b = some o) → s'.gens = s.gens → s'.os = s.os → s.heap.objs.size ≤ p →
      s'.heap.get? p = some (seqObj "list" out c) → StrsAre out.toList ys → ys.Perm l → sortedS ys = true → Q (.ref p) s') :
    wpAny (model P w) A (call (.builtin "sorted") [.ref a]) Q E s := by
  obtain ⟨o, es, ep, t, ho, hex, hd, g, pl, nd, hb, hf, hr, hl⟩ := R
  refine Calls.call_function_entry kind_sorted plain_sorted entry_sorted (args_sorted1 _) ?_
  unfold Builtin.«sorted»
  refine wpAny_bind (m := checkCount "sorted" 1 1 _) (wpAny_pure ?_)
  refine wpAny_bind (L2.collect_set (A := A.in1) hh ⟨o, ho, hex.1, hd⟩ hf hb hr hl fun s1 vs k1 hz g1 o1 pm => ?_)
  have el : es.size = l.length := by
    have q := pl.length_eq
    rw [List.length_map, Array.length_toList] at q
    exact q
  have hvl : vs.length = l.length := by rw [pm.length_eq, List.length_map, Array.length_toList]; exact el
  obtain ⟨ks, hS, hk⟩ : ∃ ks, StrsAre vs ks ∧ ks = vs.map fun v => skey (0, v) := by
    have all : ∀ v ∈ vs, ∃ k tk, v = Value.str k tk := fun v hv => by
      obtain ⟨e, he, q⟩ := List.mem_map.mp (pm.mem_iff.mp hv)
      obtain ⟨k, tk, h1, _⟩ := g e he
      exact ⟨k, tk, by rw [← q]; exact h1⟩
    clear pm hvl
    induction vs with
    | nil => exact ⟨[], .nil, rfl⟩
    | cons v vs ih =>
      obtain ⟨k, tk, rfl⟩ := all v (List.mem_cons_self ..)
      obtain ⟨ks, h1, h2⟩ := ih fun u hu => all u (List.mem_cons_of_mem _ hu)
      exact ⟨k :: ks, .cons k tk h1, by rw [h2]; rfl⟩
  have pk : ks.Perm l := by
    rw [hk]
    have q := pm.map fun v => skey (0, v)
    rw [List.map_map] at q
    exact q.trans pl
  have n64 : vs.length < 64 := by rw [hvl]; exact h64
  refine wpAny_bind (wpAny_newList ?_ (by rw [sizeLine_eq]; omega))
  have hoL : (s1.heap.push (seqObj "list" vs.toArray 0)).get? s1.heap.objs.size = some (seqObj "list" vs.toArray 0) := Heap.get?_push_size _ rfl
  refine wpAny_bind (wpAny_holding (wpAny_call_entry slot_list_sort ⟨_, hoL, rfl⟩ entry_list_sort
    (list_sort_treeK strKind_oneLt (s := { s1 with heap := s1.heap.push (seqObj "list" vs.toArray 0) }) hoL hS.keysOf (fun v₁ v₂ rest e => keyKind_strs (by rw [← e]; exact hS)) n64 fun st' hp hs => ⟨_, rfl, ?_⟩) (args_list_sort _)))
  obtain ⟨ys, b1, b2, b3⟩ := sorted_out_str hS hp hs
  obtain ⟨c, hc⟩ := sortedHeap_at (vs := vs) (out := (arrOf st').map (·.2)) hoL
  refine wpAny_pure ⟨_, rfl, hQ _ s1.heap.objs.size _ c ys (fun b u e => ?_) g1 o1 hz hc b1 (b2.trans pk) b3⟩
  have q := k1 b u e
  have lt := Heap.lt_size q
  show (sortedHeap (s1.heap.push (seqObj "list" vs.toArray 0)) s1.heap.objs.size vs _).get? b = some u
  rw [sortedHeap_old (Nat.ne_of_lt lt) (by rw [Heap.size_push]; exact Nat.lt_succ_of_lt lt)]
  exact Heap.get?_push_of_some _ q
end
def SetSO (w : World) (a : Addr) (l : List Str) : HO := .ext fun h => SetS w h a l
section
variable {X : Cx}
theorem setSO_new {w : World} {P : Program} {H : Hp} {h : Heap} {a : Addr} {l : List Str} (R : SetS w h a l) : ObjOk P w H h a (SetSO w a l) := by
  have ⟨o, _, _, _, ho, _⟩ := R
  exact ⟨R, ⟨o, ho⟩, fun h1 h2 p k => SetS.at_ p k⟩
def rSetS (K : Frg) (w : World) : List V → Hp → VK → Prop := fun vs H Q => ∃ (a : Addr) (xs : List Str), vs = [V.ref a] ∧ SqL K H a (xs.map V.str) ∧ xs.length < 64 ∧
  ∀ (ys : List Str) (p : Addr), ys.Nodup → (∀ x, x ∈ ys ↔ x ∈ xs) → ys.length < 64 → H p = none → Q (.ref p) (upd H p (SetSO w p ys))
theorem cr_setS (hc : X.calm = true) (hu : X.A.units + 64 < cLine) : CallR X (.type "set") (rSetS X.K X.w) := by
  intro pins s σ H vs us Q I r h
  obtain ⟨a, xs, rfl, hs, h64, q⟩ := h
  obtain ⟨its, rv, hl, _⟩ := I.list hs
  rw [Vals.ref1 r]
  refine call_setS (I.ok.hd hc) hl.isList rv.strs h64 (by omega) fun h' tk ys R n m l64 kp => ?_
  have J : Inv X pins σ (upd H s.heap.objs.size (SetSO X.w s.heap.objs.size ys)) { s with heap := h', toks := tk } := I.laid kp (Nat.le_refl _) (setSO_new R)
  exact ⟨.ref _, _, J, rfl, q ys _ n m l64 (I.hok.fresh (Nat.le_refl _))⟩
def rSortSetS (w : World) : List V → Hp → VK → Prop := fun vs H Q => ∃ (a : Addr) (l : List Str), vs = [V.ref a] ∧ H a = some (SetSO w a l) ∧ l.length < 64 ∧
  ∀ (ys : List Str) (p : Addr), ys.Perm l → sortedS ys = true → H p = none → Q (.ref p) (upd H p (.lst (ys.map V.str)))
theorem cr_sortSetS (hc : X.calm = true) : CallR X (.builtin "sorted") (rSortSetS X.w) := by
  intro pins s σ H vs us Q I r h
  obtain ⟨a, l, rfl, ha, h64, q⟩ := h
  have R : SetS X.w s.heap a l := (I.hok a _ ha).1
  rw [Vals.ref1 r]
  refine sorted_setS R (I.ok.hd hc) h64 fun s' p out c ys k g o hp hg hi pm st => ?_
  have hn : H p = none := I.hok.fresh hp
  have hz : (ys.map V.str).length ≤ sizeLine := by rw [List.length_map, pm.length_eq, sizeLine_eq]; omega
  have J : Inv X pins σ (upd H p (.lst (ys.map V.str))) { s with heap := s'.heap, gens := s'.gens, drawn := s'.drawn, toks := s'.toks } :=
    I.call (ch := []) (Un.laid k hp hn) (I.hok.laid k hp ⟨hz, out.toList, c, vals_of_strs hi, hg⟩) (by rw [g]; exact I.bare) (fun _ z => nomatch z)
  have e : s' = { s with heap := s'.heap, gens := s'.gens, drawn := s'.drawn, toks := s'.toks } := by
    cases s'
    cases s
    cases o
    rfl
  rw [e]
  exact ⟨.ref p, _, J, rfl, q ys p pm st hn⟩
end
end Rf
end
section
namespace Rf
open PySem PySem.Spec PyProof.Rows L2
/-! ### sets of tuples of plain things -/
/-- things of a kind that asking and hashing never runs text for -/
structure Flat (P : Program) (w : World) {κ : Type} [DecidableEq κ] (d : KeyKind P w κ) : Prop where
  cls : ∀ n k v, d.is k v = true → ofAClassStatement n v = pure false
  hsh : ∀ n k v, d.is k v = true → ∃ c, hashByValue n v = pure c
section
variable {P : Program} {w : World} {κ : Type} [DecidableEq κ] {d : KeyKind P w κ} {A : Around} {E : Value → Shared → Prop} {s : Shared}
abbrev TIs (d : KeyKind P w κ) (h : Heap) (k : List κ) (b : Addr) : Prop := IsTupleKey d h k b
theorem tis_all {k : List κ} {vs : List Value} (h : ItemsAre d k vs) : ∀ v ∈ vs, ∃ q, d.is q v = true := by
  induction h with
  | nil => intro v hv; cases hv
  | cons h1 _ ih =>
    intro v hv
    rcases List.mem_cons.mp hv with e | hv
    · exact ⟨_, by rw [e]; exact h1⟩
    · exact ih v hv
theorem tis_cls (fl : Flat P w d) {k : List κ} {b : Addr} {Q : Bool → Shared → Prop} (hk : TIs d s.heap k b) (h : Q false s) : wpAny (model P w) A (ofAClassStatement 8 (.ref b)) Q E s := by
  have ty := hk.typeIs
  obtain ⟨o, items, n, ho, _, hd, hi⟩ := hk
  unfold ofAClassStatement
  refine wpAny_bind (wpAny_typeOf ty ?_)
  dsimp only
  have e : (("tuple" : String) == "tuple") = true := by decide
  simp only [e, if_true, Bool.not_true, Bool.false_eq_true, if_false]
  try refine wpAny_bind (wpAny_pure ?_)
  try simp only [Bool.not_true, Bool.false_eq_true, if_false]
  show wpAny _ _ (seqItems? (.ref b) >>= _) _ _ s
  refine wpAny_bind (wpAny_seqItems ho hd ?_)
  dsimp only
  refine wpAny_bind ?_
  show wpAny _ _ (forIn items _ _) _ _ s
  rw [← Array.forIn_toList]
  refine wpAny_forIn_list _ (fun rest r s' => r.1 = none ∧ s' = s ∧ ∀ v ∈ rest, ∃ q, d.is q v = true) _ ?_ ?_ _ _ ⟨rfl, rfl, tis_all hi⟩
  · rintro v rest r s' ⟨hr, rfl, all⟩
    obtain ⟨q, hq⟩ := all v List.mem_cons_self
    rw [fl.cls _ q v hq]
    refine wpAny_bind (wpAny_pure ?_)
    simp only [Bool.false_eq_true, if_false]
    exact wpAny_pure ⟨rfl, rfl, fun u hu => all u (List.mem_cons_of_mem _ hu)⟩
  · rintro ⟨r1, r2⟩ s' ⟨hr, rfl, _⟩
    simp only at hr
    subst hr
    exact wpAny_pure h
theorem tis_hsh (fl : Flat P w d) {k : List κ} {b : Addr} {Q : Bool → Shared → Prop} (hk : TIs d s.heap k b) (h : ∀ c, Q c s) : wpAny (model P w) A (hashByValue 8 (.ref b)) Q E s := by
  have ty := hk.typeIs
  obtain ⟨o, items, n, ho, _, hd, hi⟩ := hk
  unfold hashByValue
  refine wpAny_bind (wpAny_specialOf ty F.slot_tuple_hash.lookup ?_)
  show wpAny _ _ (seqItems? (.ref b) >>= _) _ _ s
  refine wpAny_bind (wpAny_seqItems ho hd ?_)
  refine wpAny_bind ?_
  show wpAny _ _ (forIn items _ _) _ _ s
  rw [← Array.forIn_toList]
  refine wpAny_forIn_list _ (fun rest r s' => (r.1 = none ∨ r.1 = some false) ∧ s' = s ∧ ∀ v ∈ rest, ∃ q, d.is q v = true) _ ?_ ?_ _ _ ⟨.inl rfl, rfl, tis_all hi⟩
  · rintro v rest r s' ⟨hr, rfl, all⟩
    obtain ⟨q, hq⟩ := all v List.mem_cons_self
    obtain ⟨c, hc⟩ := fl.hsh 7 q v hq
    rw [hc]
    refine wpAny_bind (wpAny_pure ?_)
    cases c with
    | true =>
      simp only [Bool.not_true, Bool.false_eq_true, if_false]
      exact wpAny_pure ⟨.inl rfl, rfl, fun u hu => all u (List.mem_cons_of_mem _ hu)⟩
    | false =>
      simp only [Bool.not_false, if_true]
      exact wpAny_pure (wpAny_pure (h false))
  · rintro ⟨r1, r2⟩ s' ⟨hr, rfl, _⟩
    simp only at hr
    rcases hr with hr | hr
    · subst hr
      exact wpAny_pure (h true)
    · subst hr
      exact wpAny_pure (h false)
theorem tis_seen (fl : Flat P w d) {k : List κ} {b : Addr} {Q : Bool → Shared → Prop} (hk : TIs d s.heap k b) {ys : List Value} (hy : ∀ y ∈ ys, ∃ k' c, y = Value.ref c ∧ TIs d s.heap k' c) (h : Q false s) :
    wpAny (model P w) A (searchCouldBeSeen (.ref b) ys) Q E s := by
  unfold searchCouldBeSeen
  refine wpAny_bind ?_
  refine wpAny_forIn_list _ (fun rest r s' => r.1 = none ∧ s' = s ∧ ∀ y ∈ rest, ∃ k' c, y = Value.ref c ∧ TIs d s.heap k' c) _ ?_ ?_ _ _ ⟨rfl, rfl, hy⟩
  · rintro v rest r s' ⟨hr, rfl, all⟩
    obtain ⟨k', c, rfl, hc⟩ := all v List.mem_cons_self
    have more : ∀ y ∈ rest, ∃ k' c, y = Value.ref c ∧ TIs d s'.heap k' c := fun u hu => all u (List.mem_cons_of_mem _ hu)
    dsimp only
    by_cases hv : (b == c || (carriedByValue (.ref b) && carriedByValue (.ref c))) = true
    · exact L2.wp_if_pos hv (wpAny_pure ⟨rfl, rfl, more⟩)
    · refine L2.wp_if_neg hv ?_
      refine wpAny_bind (wpAny_eqIsQuiet_tuple hk ?_)
      simp only [Bool.not_true, Bool.false_eq_true, if_false]
      refine wpAny_bind (wpAny_eqIsQuiet_tuple hc ?_)
      simp only [Bool.not_true, Bool.false_eq_true, if_false]
      refine wpAny_bind (tis_cls fl hk ?_)
      simp only [Bool.false_eq_true, if_false]
      refine wpAny_bind (tis_cls fl hc ?_)
      simp only [Bool.false_eq_true, if_false]
      exact wpAny_pure ⟨rfl, rfl, more⟩
  · rintro ⟨r1, r2⟩ s' ⟨hr, rfl, _⟩
    simp only at hr
    subst hr
    exact wpAny_pure h
/-- the set's rows: hash, object -/
def rowsT (d : KeyKind P w κ) (L : List (Addr × List κ)) : List (Int × Value) := L.map fun p => (tupleKeyHash d p.2, Value.ref p.1)
/-- the set at a has just the tuples L -/
structure SetU (d : KeyKind P w κ) (h : Heap) (a : Addr) (L : List (Addr × List κ)) (es : Array (Int × Value)) (ep : Nat) (t : SetTable) : Prop where
  ob : ∃ o, h.get? a = some o ∧ o.ExactSet ∧ o.data = .set es ep t
  rows : es.toList = rowsT d L
  tab : TabOk t (L.map fun p => tupleKeyHash d p.2)
  nd : (L.map (·.2)).Nodup
  tup : ∀ p ∈ L, TIs d h p.2 p.1
  led : w.params.followText "set-order" = true ∨ t.led = true
  room : L.length * 5 < t.mask * 3
  few : L.length < 64
variable {a : Addr} {L : List (Addr × List κ)} {es : Array (Int × Value)} {ep : Nat} {t : SetTable}
theorem SetU.size {h : Heap} (R : SetU d h a L es ep t) : es.size = L.length := by
  have q := congrArg List.length R.rows
  unfold rowsT at q
  rw [Array.length_toList, List.length_map] at q
  exact q
theorem SetU.fits {h : Heap} (R : SetU d h a L es ep t) : t.fits es.size = true := by
  have q1 := R.tab.sz
  rw [List.length_map] at q1
  have q2 := R.size
  have q3 := R.room
  unfold SetTable.fits SetTable.fill
  rw [R.tab.dm, Bool.and_eq_true, beq_iff_eq, decide_eq_true_eq]
  show t.place.size = es.size ∧ t.place.size + 0 ≤ t.mask
  omega
theorem SetU.entry {h : Heap} (R : SetU d h a L es ep t) {i : Nat} {p : Addr × List κ} (e : L[i]? = some p) : es[i]? = some (tupleKeyHash d p.2, Value.ref p.1) := by
  rw [← Array.getElem?_toList, R.rows]
  unfold rowsT
  rw [List.getElem?_map, e] <;> rfl
theorem SetU.gw {h : Heap} (R : SetU d h a L es ep t) : ¬ t.gaveWay = true := by
  unfold SetTable.gaveWay
  rw [L2.mask_odd R.tab.mok]
  decide
theorem nth_dummy (m : Nat) : ∀ (n : Nat) (p : SetTable.Probe), p.dummy = none → (nth m p n).dummy = none := by
  intro n
  induction n with
  | zero => intro p h; exact h
  | succ n ih =>
    intro p h
    refine ih (adv m p) ?_
    unfold adv
    split <;> exact h
/-- where the search for the hash h starts -/
abbrev st0 (t : SetTable) (h : Int) : SetTable.Probe := runAt t.mask (SetTable.bits h % (t.mask + 1)) (SetTable.bits h)
theorem seek (fl : Flat P w d) (R : SetU d s.heap a L es ep t) {x : Addr} {k : List κ} (hx : TIs d s.heap k x) (hu : A.units < cLine) {N : Nat} (n1 : N < 10 * SetTable.turns t.mask)
    (n2 : way t.mask (tupleKeyHash d k) N ∉ t.place.toList) (n3 : ∀ c, c < N → way t.mask (tupleKeyHash d k) c ∈ t.place.toList) {Q : SetFound → Shared → Prop}
    (yes : k ∈ L.map (·.2) → Q (.there none) s) (nay : k ∉ L.map (·.2) → Q (.free (way t.mask (tupleKeyHash d k) N) false) s) :
    ∀ (f c : Nat) (stand : Option SetTable.Probe), stand.getD (t.probeStart (tupleKeyHash d k)) = nth t.mask (st0 t (tupleKeyHash d k)) c → c ≤ N → N - c < f →
      (∀ (i : Nat) p, L[i]? = some p → p.2 = k → ∃ c', c ≤ c' ∧ c' < N ∧ t.place.toList[i]? = some (way t.mask (tupleKeyHash d k) c')) →
      wpAny (model P w) A (setSearchFrom a (.ref x) (tupleKeyHash d k) true f stand) Q E s
  | 0, c, stand, _, _, hf, _ => absurd hf (Nat.not_lt_zero _)
  | f + 1, c, stand, hst, hc, hf, hre => by
    obtain ⟨o, ho, hex, hd⟩ := R.ob
    generalize hh : tupleKeyHash d k = hk at *
    rw [setSearchFrom_succ]
    refine wpAny_bind (wpAny_setState_of ho hd R.fits ?_)
    dsimp only
    refine L2.wp_if_neg R.gw ?_
    try refine wpAny_bind (wpAny_pure ?_)
    have sh : ∀ q, nth t.mask (nth t.mask (st0 t hk) c) q = nth t.mask (st0 t hk) (c + q) := fun q => (nth_add t.mask c _ q).symm
    have e1 : ∀ q, (nth t.mask (nth t.mask (st0 t hk) c) q).j = way t.mask hk (c + q) := fun q => congrArg SetTable.Probe.j (sh q)
    have spec := go_spec t R.tab.ris R.tab.dm (fun i => (es[i]?.map (·.1)).getD 0) hk (10 * SetTable.turns t.mask) (N - c) _ (nth_dummy t.mask c (st0 t hk) rfl) (by omega)
      (fun q hq => by rw [e1]; exact n3 (c + q) (by omega)) (by rw [e1, show c + (N - c) = N by omega]; exact n2)
    have hashAt : ∀ (i : Nat) p, L[i]? = some p → (fun i => (es[i]?.map (·.1)).getD 0) i = tupleKeyHash d p.2 := fun i p hp => by
      show (es[i]?.map (·.1)).getD 0 = _
      rw [R.entry hp] <;> rfl
    rcases spec with ⟨q, i, hq, hi, hh2, hno, hpr⟩ | ⟨hno, hpr⟩
    · have pr : t.probe (fun i => (es[i]?.map (·.1)).getD 0) hk (stand.getD (t.probeStart hk)) = some (.candidate (way t.mask hk (c + q)) i (nth t.mask (st0 t hk) (c + (q + 1)))) := by
        rw [hst, ← e1, ← sh]
        exact hpr
      rw [pr]
      dsimp only
      rw [e1] at hi
      have il : i < L.length := by
        have z1 : i < t.place.toList.length := (List.getElem?_eq_some_iff.mp hi).1
        have z2 := R.tab.sz
        rw [List.length_map] at z2
        rw [Array.length_toList] at z1
        omega
      have hp : L[i]? = some L[i] := List.getElem?_eq_getElem il
      generalize hpe : L[i] = p at hp
      have pm : p ∈ L := List.mem_of_getElem? hp
      have pt := R.tup p pm
      have rest : wpAny (model P w) A (searchRest a (.ref x) hk true f es t (way t.mask hk (c + q)) i (nth t.mask (st0 t hk) (c + (q + 1)))) Q E s := by
        unfold searchRest
        rw [R.entry hp]
        dsimp only
        refine wpAny_bind (wpAny_holding (wpAny_eqBool_tuple hu pt hx ?_))
        refine wpAny_bind (wpAny_setState_of ho hd R.fits ?_)
        dsimp only
        by_cases kk : p.2 = k
        · exact L2.wp_if_pos (by simp [kk]) (wpAny_pure (yes (List.mem_map.mpr ⟨p, pm, kk⟩)))
        · refine L2.wp_if_neg (by simp [kk]) ?_
          try refine wpAny_bind (wpAny_pure ?_)
          rw [L2.sameMem]
          dsimp only
          have sl : t.slot (way t.mask hk (c + q)) = .live i := slot_live R.tab.ris hi
          simp only [if_true, sl, R.entry hp]
          refine wpAny_bind (wpAny_isSame_ref_self (wpAny_bind (wpAny_pure ?_)))
          simp only [if_true]
          refine L2.wp_if_neg (by simp [kk]) ?_
          subst hh
          refine seek fl R hx hu n1 n2 n3 yes nay f (c + (q + 1)) _ rfl (by omega) (by omega) fun i0 p0 h0 hk0 => ?_
          obtain ⟨c', a1, a2, a3⟩ := hre i0 p0 h0 hk0
          refine ⟨c', ?_, a2, a3⟩
          rcases Nat.lt_trichotomy c' (c + q) with z | z | z
          · exact absurd ((hashAt i0 p0 h0).trans (congrArg (tupleKeyHash d) hk0)) (hno (c' - c) i0 (by omega) (by rw [e1, show c + (c' - c) = c' by omega]; exact a3))
          · exfalso
            rw [z] at a3
            have s0 := slot_live R.tab.ris a3
            rw [sl] at s0
            injection s0 with s0
            rw [← s0, hp] at h0
            exact kk ((congrArg Prod.snd (Option.some.inj h0)).trans hk0)
          · omega
      by_cases ld : t.led = true
      · refine L2.wp_if_neg (by simp [ld]) ?_
        try refine wpAny_bind (wpAny_pure ?_)
        exact rest
      · refine L2.wp_if_pos (by simp [ld]) ?_
        refine wpAny_bind (tis_seen fl hx (fun y hy => ?_) ?_)
        · obtain ⟨e, he, ee⟩ := List.mem_map.mp hy
          have m1 : e ∈ es ∧ e.1 = hk := by simpa using he
          have m2 : e ∈ es.toList := by simpa using m1.1
          rw [R.rows] at m2
          obtain ⟨p2, hp2, e2⟩ := List.mem_map.mp m2
          exact ⟨p2.2, p2.1, by rw [← ee, ← e2], R.tup p2 hp2⟩
        · refine L2.wp_if_neg (by decide) ?_
          try refine wpAny_bind (wpAny_pure ?_)
          exact rest
    · have pr : t.probe (fun i => (es[i]?.map (·.1)).getD 0) hk (stand.getD (t.probeStart hk)) = some (.empty (way t.mask hk N) none) := by
        have e2 : way t.mask hk N = (nth t.mask (nth t.mask (st0 t hk) c) (N - c)).j := by rw [e1, show c + (N - c) = N by omega]
        rw [hst, e2]
        exact hpr
      rw [pr]
      dsimp only
      refine wpAny_pure (nay fun hm => ?_)
      obtain ⟨p0, h0, hk0⟩ := List.mem_map.mp hm
      obtain ⟨i0, hi0, e0⟩ := List.getElem_of_mem h0
      have h00 : L[i0]? = some p0 := by rw [List.getElem?_eq_getElem hi0, e0]
      obtain ⟨c', a1, a2, a3⟩ := hre i0 p0 h00 hk0
      refine hno (c' - c) i0 (by omega) (by rw [e1, show c + (c' - c) = c' by omega]; exact a3) ?_
      rw [← hh]
      exact (hashAt i0 p0 h00).trans (congrArg (tupleKeyHash d) hk0)
theorem seekAll (fl : Flat P w d) (R : SetU d s.heap a L es ep t) {x : Addr} {k : List κ} (hx : TIs d s.heap k x) (hu : A.units < cLine) {Q : SetFound → Shared → Prop} (yes : k ∈ L.map (·.2) → Q (.there none) s)
    (nay : ∀ N, k ∉ L.map (·.2) → way t.mask (tupleKeyHash d k) N ∉ t.place.toList → (∀ c, c < N → way t.mask (tupleKeyHash d k) c ∈ t.place.toList) → Q (.free (way t.mask (tupleKeyHash d k) N) false) s) :
    wpAny (model P w) A (setSearch a (.ref x) (tupleKeyHash d k) true) Q E s := by
  have rm := R.room
  obtain ⟨N, n1, n2, n3⟩ := R.tab.first (by rw [List.length_map]; omega) (tupleKeyHash d k)
  have big : N < 100000 := by
    have : 10 * SetTable.turns t.mask ≤ 1420 := by
      unfold SetTable.turns
      rcases R.tab.mok with e | e | e <;> omega
    omega
  unfold setSearch
  refine seek fl R hx hu n1 n2 n3 yes (fun hn => nay N hn n2 n3) 100000 0 none rfl (Nat.zero_le _) (by omega) fun i p hp hk => ?_
  have z : (L.map fun p => tupleKeyHash d p.2)[i]? = some (tupleKeyHash d k) := by rw [List.getElem?_map, hp, ← hk] <;> rfl
  have il : i < t.place.toList.length := by
    have z1 : i < L.length := (List.getElem?_eq_some_iff.mp hp).1
    have z2 := R.tab.sz
    rw [List.length_map] at z2
    rw [Array.length_toList]
    omega
  have hj := List.getElem?_eq_getElem il
  obtain ⟨c, hc, e⟩ := R.tab.before n2 z hj
  exact ⟨c, Nat.zero_le _, hc, by rw [hj, e]⟩
end
end Rf
end
section
namespace Rf
open PySem PySem.Spec PyProof.Rows L2
section
variable {P : Program} {w : World} {κ : Type} [DecidableEq κ] {d : KeyKind P w κ} {A : Around} {E : Value → Shared → Prop} {s : Shared} {a : Addr} {L : List (Addr × List κ)} {es : Array (Int × Value)} {ep : Nat} {t : SetTable}
theorem tis_but {h h' : Heap} {k : List κ} {b : Addr} {o : Obj} (hb : TIs d h k b) (ho : h.get? a = some o) (hd : o.data = .set es ep t) (hs : Heap.SameBut a h h') : TIs d h' k b := by
  obtain ⟨o', items, n, ho', hc, hd', hi⟩ := hb
  have ne : b ≠ a := by
    rintro rfl
    obtain rfl : o' = o := Option.some.inj (ho'.symm.trans ho)
    rw [hd] at hd'
    exact nomatch hd'
  exact ⟨o', items, n, (hs.2 b ne).trans ho', hc, hd', hi⟩
theorem tis_keep {h h' : Heap} {k : List κ} {b : Addr} (x : TIs d h k b) (kp : ∀ c o, h.get? c = some o → h'.get? c = some o) : TIs d h' k b := by
  obtain ⟨o, items, n, ho, r⟩ := x
  exact ⟨o, items, n, kp _ _ ho, r⟩
theorem pick_map {α β : Type} {L : List α} {f : α → β} {M : List β} (hM : M = L.map f) : ∀ {l : List Nat}, (∀ i ∈ l, i < L.length) → l.filterMap (fun i => M[i]?) = (l.filterMap fun i => L[i]?).map f
  | [], _ => rfl
  | i :: l, h => by
    have hi := h i List.mem_cons_self
    have e1 : L[i]? = some L[i] := List.getElem?_eq_getElem hi
    have e2 : M[i]? = some (f L[i]) := by rw [hM, List.getElem?_map, e1]; rfl
    rw [List.filterMap_cons_some e2, List.filterMap_cons_some e1, List.map_cons, pick_map hM fun j hj => h j (List.mem_cons_of_mem _ hj)]
theorem pick_all {α : Type} (L : List α) : (List.range L.length).filterMap (fun i => L[i]?) = L := by
  have key : ∀ n, n ≤ L.length → (List.range n).filterMap (fun i => L[i]?) = L.take n := by
    intro n
    induction n with
    | zero => intro _; rfl
    | succ n ih =>
      intro hn
      rw [List.range_succ, List.filterMap_append, ih (Nat.le_of_lt hn), List.take_succ, List.getElem?_eq_getElem hn, List.filterMap_cons_some (List.getElem?_eq_getElem hn)]
      rfl
  rw [key _ (Nat.le_refl _), List.take_length]
/-- the rows, laid anew in some order -/
theorem rows_order (L : List (Addr × List κ)) (es : Array (Int × Value)) (order : Array Nat) (hr : es.toList = rowsT d L) (hp : order.toList.Perm (List.range L.length)) :
    ∃ L2, (order.filterMap (es[·]?)).toList = rowsT d L2 ∧ L2.Perm L ∧ (L2.map fun p => tupleKeyHash d p.2) = order.toList.map fun i => (es.map (·.1)).getD i 0 := by
  have lt : ∀ i ∈ order.toList, i < L.length := fun i hi => List.mem_range.mp (hp.mem_iff.mp hi)
  refine ⟨order.toList.filterMap fun i => L[i]?, ?_, ?_, ?_⟩
  · have e : (fun (i : Nat) => es[i]?) = fun (i : Nat) => es.toList[i]? := by funext i; rw [Array.getElem?_toList]
    rw [Array.toList_filterMap]
    show order.toList.filterMap (fun i => es[i]?) = _
    rw [e]
    exact pick_map hr lt
  · have q := hp.filterMap fun i => L[i]?
    rw [pick_all] at q
    exact q
  · clear hp
    generalize order.toList = l at lt
    induction l with
    | nil => rfl
    | cons i l ih =>
      have hi := lt i List.mem_cons_self
      rw [List.filterMap_cons_some (List.getElem?_eq_getElem hi), List.map_cons, List.map_cons, ih fun j hj => lt j (List.mem_cons_of_mem _ hj)]
      congr 1
      have e5 : (es.map (·.1))[i]? = some (tupleKeyHash d (L[i]).2) := by
        rw [Array.getElem?_map, ← Array.getElem?_toList, hr]
        unfold rowsT
        rw [List.getElem?_map, List.getElem?_eq_getElem hi]
        rfl
      simp [Array.getD_eq_getD_getElem?, e5]
theorem relayU {o : Obj} (ho : s.heap.get? a = some o) (hex : o.ExactSet) (hd : o.data = .set es ep t) (hrows : es.toList = rowsT d L) (hsz : t.place.size = es.size) (hdm : t.dummies = #[]) (hfl : es.size ≤ t.mask)
    (nd : (L.map (·.2)).Nodup) (tup : ∀ p ∈ L, TIs d s.heap p.2 p.1) (ld : w.params.followText "set-order" = true ∨ t.led = true) (few : L.length < 64) {wanted M : Nat}
    (hw : SetTable.sizeAbove wanted - 1 = M) (hM : MaskOk M) (hw2 : SetTable.sizeAbove wanted ≤ 128) (hn : L.length * 5 < M * 3) {Q : Unit → Shared → Prop}
    (hQ : ∀ h' L' es' ep' t', Heap.SameBut a s.heap h' → SetU d h' a L' es' ep' t' → L'.Perm L → Q () { s with heap := h' }) : wpAny (model P w) A (setRelay a wanted) Q E s := by
  have sl : es.size = L.length := by
    have q := congrArg List.length hrows
    unfold rowsT at q
    rw [Array.length_toList, List.length_map] at q
    exact q
  have fit : t.fits es.size = true := by
    unfold SetTable.fits SetTable.fill
    rw [hdm, Bool.and_eq_true, beq_iff_eq, decide_eq_true_eq]
    show t.place.size = es.size ∧ t.place.size + 0 ≤ t.mask
    omega
  obtain ⟨t', order, e, hp, T, em, el, ep', ed⟩ := relaid_ok t (hs := es.map (·.1)) (wanted := wanted) hw hM (by rw [Array.size_map, sl]; omega)
  rw [Array.size_map, sl] at hp
  obtain ⟨L2, r1, r2, r3⟩ := rows_order L es order hrows hp
  rw [← r3] at T
  have s2 : (order.filterMap (es[·]?)).size = es.size := by
    have q := congrArg List.length r1
    unfold rowsT at q
    rw [Array.length_toList, List.length_map, r2.length_eq] at q
    rw [q, sl]
  rw [setRelay_eq]
  refine wpAny_bind (wpAny_setState_of ho hd fit ?_)
  dsimp only
  refine _root_.L2.wp_if_neg (by rw [sizeLine_eq]; omega) ?_
  try refine wpAny_bind (wpAny_pure ?_)
  rw [e]
  dsimp only
  refine wpAny_bind ?_
  refine _root_.L2.wp_if_neg (by rw [s2]; simp) ?_
  try refine wpAny_bind (wpAny_pure ?_)
  refine wpAny_pure ?_
  dsimp only
  refine wpAny_storeSet_of ho hd ?_ (by rw [s2, sl, sizeLine_eq]; omega)
  have sb : Heap.SameBut a s.heap (s.heap.update a (Obj.putSet (order.filterMap (es[·]?)) t')) := Heap.SameBut.update ..
  refine hQ _ L2 (order.filterMap (es[·]?)) (ep + 1) t' sb ⟨⟨_, _root_.L2.store_at ho hd, ⟨hex.1, hex.2.1, hex.2.2⟩, rfl⟩, r1, T, (r2.map (·.2)).nodup_iff.mpr nd, fun p hpm => tis_but (tup p (r2.mem_iff.mp hpm)) ho hd sb, by rw [el]; exact ld, ?_, by rw [r2.length_eq]; exact few⟩ r2
  rw [r2.length_eq, em]
  exact hn
theorem mid_perm {α : Type} (L : List α) (p : Nat) (x : α) : (L.take p ++ x :: L.drop p).Perm (x :: L) := by
  have q : (L.take p ++ x :: L.drop p).Perm (x :: (L.take p ++ L.drop p)) := List.perm_middle
  rw [List.take_append_drop] at q
  exact q
theorem addU (fl : Flat P w d) (R : SetU d s.heap a L es ep t) {x : Addr} {k : List κ} (hx : TIs d s.heap k x) (hu : A.units < cLine) (few : L.length + 1 < 64) {Q : Bool → Shared → Prop}
    (hQ : ∀ b h' L' es' ep' t', Heap.SameBut a s.heap h' → SetU d h' a L' es' ep' t' → (k ∈ L.map (·.2) → L' = L) → (k ∉ L.map (·.2) → L'.Perm ((x, k) :: L)) → Q b { s with heap := h' }) :
    wpAny (model P w) A (setAddHashed a (.ref x) (tupleKeyHash d k)) Q E s := by
  obtain ⟨o, ho, hex, hd⟩ := R.ob
  have sl := R.size
  have rm := R.room
  unfold setAddHashed
  refine wpAny_holding ?_
  rw [show (100000 : Nat) = 99999 + 1 from rfl, setAddHashedIn_succ]
  refine wpAny_bind (wpAny_setState_of ho hd R.fits ?_)
  dsimp only
  refine _root_.L2.wp_if_neg (by simp [byScan, Value.scannable]) ?_
  try refine wpAny_bind (wpAny_pure ?_)
  refine wpAny_bind (seekAll fl R hx hu (fun hm => ?_) fun N hm n2 n3 => ?_)
  · dsimp only
    exact wpAny_pure (hQ false s.heap L es ep t (Heap.SameBut.refl a s.heap) R (fun _ => rfl) fun z => absurd hm z)
  · dsimp only
    refine wpAny_bind (wpAny_setState_of ho hd R.fits ?_)
    dsimp only
    obtain ⟨q1, q2, q3, q4, q5, q6, q7, q8, q9⟩ := R.tab.put n2 n3
    generalize hpt : t.put (way t.mask (tupleKeyHash d k) N) = pt at q1 q3 q4 q5 q6 q7 q8 q9 ⊢
    obtain ⟨t1, p⟩ := pt
    dsimp only at q1 q3 q4 q5 q6 q7 q8 q9 ⊢
    subst q1
    have byv : ∀ {F : Bool → Sem Bool}, (∀ c, wpAny (model P w) A (F c) Q E s) → wpAny (model P w) A (if t1.plain = true then hashByValue 8 (.ref x) >>= F else pure true >>= F) Q E s := fun {F} hq => by
      by_cases pl : t1.plain = true
      · exact _root_.L2.wp_if_pos pl (wpAny_bind (tis_hsh fl hx hq))
      · exact _root_.L2.wp_if_neg pl (wpAny_bind (wpAny_pure (hq true)))
    refine byv fun cv => ?_
    have tq : ∀ {hs : List Int}, TabOk t1 hs → TabOk (if cv = true then t1 else { t1 with plain := false }) hs := fun T => by
      cases cv with
      | true => exact T
      | false => exact ⟨T.ris, T.dm, T.sz, T.mok, T.bd, T.reach⟩
    have q3 := tq q3
    have q4 : (if cv = true then t1 else { t1 with plain := false }).mask = t.mask := by cases cv <;> exact q4
    have q5 : (if cv = true then t1 else { t1 with plain := false }).led = t.led := by cases cv <;> exact q5
    have q9 : (if cv = true then t1 else { t1 with plain := false }).fill = (L.map fun p => tupleKeyHash d p.2).length + 1 := by cases cv <;> exact q9
    generalize (if cv = true then t1 else { t1 with plain := false }) = t1 at q3 q4 q5 q9 ⊢
    generalize SetTable.below t.place (way t.mask (tupleKeyHash d k) N) = p at q2 q3 ⊢
    have hin : (SetTable.insertAt es p (tupleKeyHash d k, Value.ref x)).toList = rowsT d (L.take p ++ (x, k) :: L.drop p) := by
      rw [SetTable.toList_insertAt, R.rows]
      unfold rowsT
      rw [List.map_append, List.map_cons, List.map_take, List.map_drop]
    have pm := mid_perm L p (x, k)
    have len1 : (L.take p ++ (x, k) :: L.drop p).length = L.length + 1 := pm.length_eq
    have hhs : (L.take p ++ (x, k) :: L.drop p).map (fun p => tupleKeyHash d p.2) = (L.map fun p => tupleKeyHash d p.2).take p ++ tupleKeyHash d k :: (L.map fun p => tupleKeyHash d p.2).drop p := by
      rw [List.map_append, List.map_cons, List.map_take, List.map_drop]
    rw [← hhs] at q3
    have nd1 : ((L.take p ++ (x, k) :: L.drop p).map (·.2)).Nodup := by
      refine (pm.map (·.2)).nodup_iff.mpr ?_
      rw [List.map_cons]
      exact List.nodup_cons.mpr ⟨hm, R.nd⟩
    have hes : (SetTable.insertAt es p (tupleKeyHash d k, Value.ref x)).size = L.length + 1 := by
      have q := congrArg List.length hin
      unfold rowsT at q
      rw [Array.length_toList, List.length_map, len1] at q
      exact q
    generalize SetTable.insertAt es p (tupleKeyHash d k, Value.ref x) = es1 at hin hes ⊢
    generalize L.take p ++ (x, k) :: L.drop p = L1 at pm len1 q3 nd1 hin
    refine wpAny_bind (wpAny_storeSet_of ho hd ?_ (by rw [hes, sizeLine_eq]; omega))
    have sb : Heap.SameBut a s.heap (s.heap.update a (Obj.putSet es1 t1)) := Heap.SameBut.update ..
    have ho1 := _root_.L2.store_at (es' := es1) (t' := t1) ho hd
    generalize s.heap.update a (Obj.putSet es1 t1) = h1 at sb ho1 ⊢
    have tup1 : ∀ p ∈ L1, TIs d h1 p.2 p.1 := fun p hp => by
      rcases List.mem_cons.mp (pm.mem_iff.mp hp) with e | hp
      · rw [e]; exact tis_but hx ho hd sb
      · exact tis_but (R.tup p hp) ho hd sb
    have ld1 : w.params.followText "set-order" = true ∨ t1.led = true := by rw [q5]; exact R.led
    by_cases hf : t1.tooFull = true
    · first
        | (refine wpAny_bind ?_; refine _root_.L2.wp_if_pos (by simp [hf]) ?_)
        | (refine _root_.L2.wp_if_pos (by simp [hf]) ?_; refine wpAny_bind ?_)
      have full : (L.length + 1) * 5 ≥ t1.mask * 3 := by
        have q := hf
        unfold SetTable.tooFull at q
        rw [decide_eq_true_eq, q9, List.length_map] at q
        exact q
      rw [sl]
      have sz1 : t1.place.size = es1.size := by
        have q := q3.sz
        rw [List.length_map, len1] at q
        rw [q, hes]
      have two : (t.mask = 7 ∧ L.length = 4) ∨ (t.mask = 31 ∧ L.length = 18) := by
        rcases R.tab.mok with e | e | e
        · left; rw [q4, e] at full; rw [e] at rm; exact ⟨e, by omega⟩
        · right; rw [q4, e] at full; rw [e] at rm; exact ⟨e, by omega⟩
        · exfalso; rw [q4, e] at full; omega
      have go : ∀ M, SetTable.sizeAbove (SetTable.grown (L.length + 1)) - 1 = M → MaskOk M → SetTable.sizeAbove (SetTable.grown (L.length + 1)) ≤ 128 → (L.length + 1) * 5 < M * 3 →
          wpAny (model P w) A (setRelay a (SetTable.grown (L.length + 1))) (fun _ s' => wpAny (model P w) A (pure true) Q E s') E { s with heap := h1 } := fun M m1 m2 m3 m4 => by
        refine relayU (s := { s with heap := h1 }) ho1 ⟨hex.1, hex.2.1, hex.2.2⟩ rfl hin sz1 q3.dm (by rw [hes, q4]; rcases two with ⟨e, e2⟩ | ⟨e, e2⟩ <;> omega) nd1 tup1 ld1 (by rw [len1]; exact few) m1 m2 m3 (by rw [len1]; exact m4) ?_
        intro h2 L2 es2 ep2 t2 sb2 R2 pm2
        exact wpAny_pure (hQ true h2 L2 es2 ep2 t2 (sb.trans sb2) R2 (fun z => absurd z hm) fun _ => pm2.trans pm)
      rcases two with ⟨_, e2⟩ | ⟨_, e2⟩
      · exact go 31 (by rw [e2, L2.size_20]) (.inr (.inl rfl)) (by rw [e2, L2.size_20]; decide) (by omega)
      · exact go 127 (by rw [e2, L2.size_76]) (.inr (.inr rfl)) (by rw [e2, L2.size_76]; decide) (by omega)
    · first
        | refine _root_.L2.wp_if_neg (by simp [hf]) ?_
        | (refine wpAny_bind ?_; refine _root_.L2.wp_if_neg (by simp [hf]) ?_; refine wpAny_pure ?_)
      refine wpAny_pure (hQ true h1 L1 es1 (ep + 1) t1 sb ⟨⟨_, ho1, ⟨hex.1, hex.2.1, hex.2.2⟩, rfl⟩, hin, q3, nd1, tup1, ld1, ?_, by rw [len1]; exact few⟩ (fun z => absurd z hm) fun _ => pm)
      have q := hf
      unfold SetTable.tooFull at q
      rw [decide_eq_true_eq, q9, List.length_map] at q
      rw [len1]
      omega
theorem setU_fresh {h : Heap} (ho : h.get? a = some (set0 w)) : SetU d h a [] #[] 0 (.fresh 0 0 (!w.params.followText "set-order")) where
  ob := ⟨_, ho, ⟨rfl, rfl, rfl⟩, rfl⟩
  rows := rfl
  tab := ⟨List.Pairwise.nil, rfl, rfl, .inl rfl, fun x hx => (by cases hx), fun i h j hi => (by simp at hi)⟩
  nd := List.nodup_nil
  tup := fun p hp => (by cases hp)
  led := by
    show _ ∨ (!w.params.followText "set-order") = true
    cases w.params.followText "set-order"
    · exact .inr rfl
    · exact .inl rfl
  room := by
    show 0 * 5 < (SetTable.fresh 0 0 (!w.params.followText "set-order")).mask * 3
    have : (SetTable.fresh 0 0 (!w.params.followText "set-order")).mask = 7 := rfl
    omega
  few := Nat.zero_lt_succ _
/-- what is in when i of the tuples ks were put in -/
structure GotU (ks : List (Addr × List κ)) (i : Nat) (L : List (Addr × List κ)) : Prop where
  sub : ∀ p ∈ L, p ∈ ks.take i
  all : ∀ p ∈ ks.take i, p.2 ∈ L.map (·.2)
  len : L.length ≤ i
theorem growU (fl : Flat P w d) {h0 : Heap} {S : Addr} {items : Array Value} {ks : List (Addr × List κ)} (hit : items.toList = ks.map fun p => Value.ref p.1) (hk : ∀ p ∈ ks, TIs d h0 p.2 p.1) (h64 : ks.length < 64) (hS0 : h0.get? S = none) :
    Grow P w h0 S items (fun i h => ∃ L es ep t, SetU d h S L es ep t ∧ GotU ks i L) where
  keep := fun i h h' ⟨L, es, ep, t, R, g⟩ kS kp => ⟨L, es, ep, t, ⟨let ⟨o, ho, r⟩ := R.ob; ⟨o, kS o ho, r⟩, R.rows, R.tab, R.nd, fun p hp => tis_keep (hk p (List.mem_of_mem_take (g.sub p hp))) kp, R.led, R.room, R.few⟩, g⟩
  step := fun i v A E s Q hu hv ⟨L, es, ep, t, R, g⟩ kp hQ => by
    have hv' : items.toList[i]? = some v := by rw [Array.getElem?_toList]; exact hv
    rw [hit, List.getElem?_map] at hv'
    cases hp : ks[i]? with
    | none => rw [hp] at hv'; cases hv'
    | some p =>
      rw [hp] at hv'
      cases hv'
      have pm : p ∈ ks := List.mem_of_getElem? hp
      have hx : TIs d s.heap p.2 p.1 := tis_keep (hk p pm) kp
      have il : i < ks.length := (List.getElem?_eq_some_iff.mp hp).1
      have tk : ks.take (i + 1) = ks.take i ++ [p] := by rw [List.take_succ, hp]; rfl
      unfold setAdd
      refine wpAny_holding ?_
      refine wpAny_bind (wpAny_pyHash_tuple hu hx ?_)
      refine addU fl (s := { s with toks := s.toks + (p.2.length + 1) }) R hx hu (by have := g.len; omega) fun b h' L' es' ep' t' sb R2 c1 c2 => hQ b h' _ (Nat.le_add_right _ _) sb ⟨L', es', ep', t', R2, ?_⟩
      by_cases c : p.2 ∈ L.map (·.2)
      · rw [c1 c]
        refine ⟨fun q hq => by rw [tk]; exact List.mem_append_left _ (g.sub q hq), fun q hq => ?_, Nat.le_succ_of_le g.len⟩
        rw [tk] at hq
        rcases List.mem_append.mp hq with z | z
        · exact g.all q z
        · rw [List.mem_singleton.mp z]; exact c
      · have pmL := c2 c
        refine ⟨fun q hq => ?_, fun q hq => ?_, ?_⟩
        · rw [tk]
          rcases List.mem_cons.mp (pmL.mem_iff.mp hq) with z | z
          · rw [z]; exact List.mem_append_right _ (List.mem_singleton.mpr rfl)
          · exact List.mem_append_left _ (g.sub q z)
        · rw [tk] at hq
          have q1 : q.2 ∈ ((p.1, p.2) :: L).map (·.2) := by
            rcases List.mem_append.mp hq with z | z
            · exact List.mem_cons_of_mem _ (g.all q z)
            · rw [List.mem_singleton.mp z]; exact List.mem_cons_self
          exact (pmL.map (·.2)).mem_iff.mpr q1
        · rw [pmL.length_eq]; exact Nat.succ_le_succ g.len
end
end Rf
end
section
namespace Rf
open PySem PySem.Spec PyProof.Rows L2 PySem.W
/-! ### texts, tuples of texts: their order -/
def encT (k : List Str) : PyData := .tuple (k.map .str)
theorem dataLt_str (a b : Str) : dataLt (.str a) (.str b) = decide (a.cps.toList < b.cps.toList) := by
  have q := congrFun (congrFun (dataLe_str (fun x : Str => x)) b) a
  rw [dataLe_eq] at q
  have q : (!dataLt (.str a) (.str b)) = decide (b.cps.toList ≤ a.cps.toList) := q
  rw [← Bool.not_not (dataLt (.str a) (.str b)), q, ← not_lt_str, Bool.not_not]
theorem str_ext {a b : Str} (h : a.cps.toList = b.cps.toList) : a = b := by
  cases a
  cases b
  congr 1
  exact Array.toList_inj.mp h
theorem row_strs : ∀ a b : List Str, (!rowLt (b.map .str) (a.map .str)) = leSs a b
  | [], b => by
    cases b <;> rfl
  | x :: a, [] => rfl
  | x :: a, y :: b => by
    have e : rowLt ((y :: b).map PyData.str) ((x :: a).map PyData.str) = if PyData.eqv (.str y) (.str x) = true then rowLt (b.map .str) (a.map .str) else dataLt (.str y) (.str x) := dataLt_cons rfl _ _
    rw [e]
    have e2 : PyData.eqv (.str y) (.str x) = decide (y = x) := by
      show (y == x) = decide (y = x)
      rw [← Bool.coe_iff_coe]
      simp
    rw [e2]
    show _ = if x = y then leSs a b else leS x y
    by_cases h : x = y
    · subst h
      rw [if_pos rfl, if_pos (by simp)]
      exact row_strs a b
    · rw [if_neg h, if_neg (by simpa using fun z => h z.symm), dataLt_str]
      unfold leS
      rw [← Bool.coe_iff_coe]
      simp
theorem leT_eq : dataLe false encT = leSs := by
  funext a b
  rw [dataLe_eq]
  exact row_strs a b
theorem leS_eq : dataLe false (fun x : Str => PyData.str x) = leS := by
  funext a b
  rw [dataLe_eq]
  show (!dataLt (.str b) (.str a)) = _
  rw [dataLt_str]
  unfold leS
  rw [← Bool.coe_iff_coe]
  simp
theorem swoF : SrtO.Swo (fun _ _ : Value => false) := { asym := fun _ _ z => Bool.noConfusion z, tr := fun _ _ _ _ _ => rfl }
theorem perm1 {α : Type} {out vs : List α} (h1 : vs.length ≤ 1) (pm : out.Perm vs) : out = vs := by
  match vs, h1, pm with
  | [], _, pm => exact pm.eq_nil
  | [v], _, pm => exact pm.eq_singleton
theorem len1 {α : Type} {vs : List α} (h1 : vs.length ≤ 1) : vs.length ≤ sizeLine := Nat.le_trans h1 (by rw [sizeLine_eq]; exact Nat.le_of_ble_eq_true rfl)
theorem not2 {α : Type} {vs : List α} (h1 : vs.length ≤ 1) (z : 2 ≤ vs.length) : False := absurd (Nat.le_trans z h1) (by decide)
theorem perm_map {α β : Type} {f : α → β} : ∀ {vs : List β} {L : List α}, vs.Perm (L.map f) → ∃ L1 : List α, vs = L1.map f ∧ L1.Perm L := by
  intro vs L h
  generalize hm : L.map f = ws at h
  induction h generalizing L with
  | nil => exact ⟨[], rfl, by cases L with | nil => exact .nil | cons _ _ => cases hm⟩
  | @cons x l1 l2 h ih =>
    cases L with
    | nil => cases hm
    | cons y L =>
      injection hm with e1 e2
      obtain ⟨M, h1, h2⟩ := ih e2
      exact ⟨y :: M, by rw [h1, List.map_cons, e1], .cons y h2⟩
  | swap x y l =>
    match L, hm with
    | p :: q :: L, hm =>
      injection hm with e1 hm
      injection hm with e2 e3
      exact ⟨q :: p :: L, by rw [List.map_cons, List.map_cons, e1, e2, e3], .swap p q L⟩
  | trans h1 h2 ih1 ih2 =>
    obtain ⟨M, a1, a2⟩ := ih2 hm
    obtain ⟨M2, b1, b2⟩ := ih1 a1.symm
    exact ⟨M2, b1, b2.trans a2⟩
section
variable {P : Program} {w : World} {A : Around} {E : Value → Shared → Prop} {s : Shared} {a : Addr}
theorem flatS : Flat P w (PySem.strKind P w) where
  cls := fun n k v h => by
    obtain ⟨t, rfl⟩ := Value.isStrOf_shape h
    cases n <;> rfl
  hsh := fun n k v h => by
    obtain ⟨t, rfl⟩ := Value.isStrOf_shape h
    exact ⟨false, by cases n <;> rfl⟩
theorem reads_strs {h : Heap} {k : List Str} {vs : List Value} (hi : ItemsAre (PySem.strKind P w) k vs) : ReadsAll h vs (k.map .str) [] := by
  induction hi with
  | nil => exact .nil
  | @cons q v ks vs h1 _ ih =>
    obtain ⟨t, rfl⟩ := Value.isStrOf_shape h1
    exact .cons (as := []) (bs := []) (.str q t) ih
theorem reads_tup {h : Heap} {k : List Str} {b : Addr} (x : TIs (PySem.strKind P w) h k b) : Reads h (.ref b) (encT k) [] := by
  obtain ⟨o, items, n, ho, hc, hd, hi⟩ := x
  exact .tuple ho hc hd (reads_strs hi)
theorem depth_strs : ∀ k : List Str, PyData.depthAll (k.map .str) = 0
  | [] => rfl
  | x :: k => by
    show max 0 (PyData.depthAll (k.map .str)) = 0
    rw [depth_strs k]
    rfl
theorem alike_strs : ∀ a b : List Str, alikeAll (a.map .str) (b.map .str) = true
  | [], b => by cases b <;> rfl
  | x :: a, [] => rfl
  | x :: a, y :: b => by
    show (true && alikeAll (a.map .str) (b.map .str)) = true
    rw [alike_strs a b]
    rfl
theorem each_of {ps : List (Addr × List Str)} {R : Value → List Str → Prop} : ∀ {l : List (Addr × List Str)}, (∀ p ∈ l, R (.ref p.1) p.2) → EachIs R (l.map fun p => Value.ref p.1) (l.map (·.2))
  | [], _ => .nil
  | p :: l, h => .cons (h p List.mem_cons_self) (each_of (ps := ps) fun q hq => h q (List.mem_cons_of_mem _ hq))
theorem of_each {ps : List (Addr × List Str)} : ∀ {out : List Value} {bs : List (List Str)}, EachIs (fun v b => ∃ p ∈ ps, v = Value.ref p.1 ∧ p.2 = b) out bs → ∃ ps' : List (Addr × List Str), out = ps'.map (fun p => Value.ref p.1) ∧ ps'.map (·.2) = bs ∧ ∀ p ∈ ps', p ∈ ps
  | _, _, .nil => ⟨[], rfl, rfl, fun p h => by cases h⟩
  | _, _, .cons ⟨p, hp, e1, e2⟩ r => by
    obtain ⟨ps', q1, q2, q3⟩ := of_each r
    refine ⟨p :: ps', by rw [e1, q1]; rfl, by rw [List.map_cons, e2, q2], fun x hx => ?_⟩
    rcases List.mem_cons.mp hx with z | z
    · rw [z]; exact hp
    · exact q3 x z
/-- sorted(a list of tuples of texts) -/
theorem sorted_tups {l : Addr} {ps : List (Addr × List Str)} {Q : Value → Shared → Prop} (hl : s.heap.IsList l (ps.map fun p => Value.ref p.1).toArray) (ht : ∀ p ∈ ps, TIs (PySem.strKind P w) s.heap p.2 p.1) (hne : ∀ p ∈ ps, p.2 ≠ []) (hz : ps.length ≤ sizeLine) (hu : A.units + 3 < cLine)
    (h : ∀ (ps' : List (Addr × List Str)), ps'.map (·.2) = (ps.map (·.2)).mergeSort leSs → (∀ p ∈ ps', p ∈ ps) → Q (.ref (s.heap.objs.size + 1)) { s with heap := sortedAll s.heap (ps.map fun p => Value.ref p.1) (ps'.map fun p => Value.ref p.1).toArray }) :
    wpAny (model P w) A (call (.builtin "sorted") [.ref l]) Q E s := by
  refine sorted_data (R := fun v b => ∃ p ∈ ps, v = Value.ref p.1 ∧ p.2 = b) (enc := encT) (bs := ps.map (·.2)) hl (each_of (ps := ps) fun p hp => ⟨p, hp, rfl, rfl⟩) (each_of (ps := ps) fun p hp => ⟨[], reads_tup (ht p hp)⟩) (AllAlike.of fun b b' => alike_strs b b') (.inl fun q hq => ?_) (by rw [List.length_map]; exact hz) (fun b hb => ?_) fun out ho eo => ?_
  · rw [List.map_map] at hq
    obtain ⟨p, hp, rfl⟩ := List.mem_map.mp hq
    obtain ⟨x, r, e⟩ := List.exists_cons_of_ne_nil (hne p hp)
    exact ⟨.str x, r.map .str, by show encT p.2 = _; rw [e]; rfl⟩
  · have : (encT b).depth = 1 := by
      show PyData.depthAll (b.map .str) + 1 = 1
      rw [depth_strs]
    rw [this]
    exact hu
  · rw [leT_eq] at eo
    obtain ⟨ps', q1, q2, q3⟩ := of_each eo
    rw [q1]
    exact h ps' q2 q3
/-- .. of at most one thing -/
theorem sorted_one {l : Addr} {vs : List Value} {Q : Value → Shared → Prop} (hl : s.heap.IsList l vs.toArray) (h1 : vs.length ≤ 1) (h : Q (.ref (s.heap.objs.size + 1)) { s with heap := sortedAll s.heap vs vs.toArray }) :
    wpAny (model P w) A (call (.builtin "sorted") [.ref l]) Q E s :=
  SrtO.sorted_ord swoF hl (len1 h1) (fun z => (not2 h1 z).elim) fun out so st => by
    rw [perm1 h1 st.perm]
    exact h
/-- sorted(a set of tuples of texts) -/
theorem sorted_setU {L : List (Addr × List Str)} {es : Array (Int × Value)} {ep : Nat} {t : SetTable} {Q : Value → Shared → Prop} (R : SetU (PySem.strKind P w) s.heap a L es ep t) (hh : A.handled = none) (hne : ∀ p ∈ L, p.2 ≠ []) (hu : A.units + 4 < cLine)
    (hQ : ∀ s' p (out : Array Value) (c : Nat) (L' : List (Addr × List Str)), (∀ b o, s.heap.get? b = some o → s'.heap.get? b = some o) → s'.gens = s.gens → s'.os = s.os → s.heap.objs.size ≤ p → s'.heap.get? p = some (seqObj "list" out c) →
      out.toList = L'.map (fun q => Value.ref q.1) → (∀ q ∈ L', q ∈ L) → (∃ bs : List (List Str), bs.Perm (L.map (·.2)) ∧ L'.map (·.2) = bs.mergeSort leSs) → Q (.ref p) s') :
    wpAny (model P w) A (call (.builtin "sorted") [.ref a]) Q E s := by
  obtain ⟨o, ho, hex, hd⟩ := R.ob
  have few := R.few
  refine Calls.call_function_entry kind_sorted plain_sorted entry_sorted (args_sorted1 _) ?_
  unfold Builtin.«sorted»
  refine wpAny_bind (m := checkCount "sorted" 1 1 _) (wpAny_pure ?_)
  refine wpAny_bind (_root_.L2.collect_set (A := A.in1) hh ⟨o, ho, hex.1, hd⟩ R.fits (by rw [R.size]; unfold scanBound; omega) R.tab.ris R.led fun s1 vs k1 hz g1 o1 pm => ?_)
  have e0 : es.toList.map (·.2) = L.map fun q => Value.ref q.1 := by
    rw [R.rows]
    unfold rowsT
    rw [List.map_map]
    rfl
  rw [e0] at pm
  obtain ⟨L1, e1, p1⟩ := perm_map pm
  subst e1
  have vl : L1.length < 64 := by rw [p1.length_eq]; exact few
  refine wpAny_bind (wpAny_newList ?_ (by rw [List.length_map, sizeLine_eq]; omega))
  have hoL : (s1.heap.push (seqObj "list" (L1.map fun q => Value.ref q.1).toArray 0)).get? s1.heap.objs.size = some (seqObj "list" (L1.map fun q => Value.ref q.1).toArray 0) := Heap.get?_push_size _ rfl
  have kp : ∀ b u, s.heap.get? b = some u → (s1.heap.push (seqObj "list" (L1.map fun q => Value.ref q.1).toArray 0)).get? b = some u := fun b u e => Heap.get?_push_of_some _ (k1 b u e)
  refine wpAny_bind (wpAny_holding ?_)
  refine list_sort_data (R := fun v b => ∃ p ∈ L1, v = Value.ref p.1 ∧ p.2 = b) (enc := encT) (bs := L1.map (·.2)) (s := { s1 with heap := s1.heap.push (seqObj "list" (L1.map fun q => Value.ref q.1).toArray 0) }) hoL (each_of (ps := L1) fun p hp => ⟨p, hp, rfl, rfl⟩)
    (each_of (ps := L1) fun p hp => ⟨[], reads_tup (tis_keep (R.tup p (p1.mem_iff.mp hp)) kp), by simp⟩) (AllAlike.of fun b b' => alike_strs b b') (.inl fun q hq => ?_) (by rw [List.length_map, sizeLine_eq]; omega) (fun b hb => ?_) fun out lo eo => ?_
  · rw [List.map_map] at hq
    obtain ⟨p, hp, rfl⟩ := List.mem_map.mp hq
    obtain ⟨x, r, e⟩ := List.exists_cons_of_ne_nil (hne p (p1.mem_iff.mp hp))
    exact ⟨.str x, r.map .str, by show encT p.2 = _; rw [e]; rfl⟩
  · have : (encT b).depth = 1 := by
      show PyData.depthAll (b.map .str) + 1 = 1
      rw [depth_strs]
    rw [this]
    show A.in1.units + 1 + 1 < cLine
    have : A.in1.units = A.units + 1 := rfl
    omega
  · rw [leT_eq] at eo
    obtain ⟨L', q1, q2, q3⟩ := of_each eo
    obtain ⟨c, hc⟩ := sortedHeap_at (vs := L1.map fun q => Value.ref q.1) (out := out.toArray) hoL
    refine wpAny_pure ⟨_, rfl, hQ _ s1.heap.objs.size _ c L' (fun b u e => ?_) g1 o1 hz hc (by rw [List.toList_toArray, q1]) (fun q hq => p1.mem_iff.mp (q3 q hq)) ⟨L1.map (·.2), p1.map _, q2⟩⟩
    have q := k1 b u e
    have lt := Heap.lt_size q
    show (sortedHeap (s1.heap.push (seqObj "list" (L1.map fun q => Value.ref q.1).toArray 0)) s1.heap.objs.size (L1.map fun q => Value.ref q.1) _).get? b = some u
    rw [sortedHeap_old (Nat.ne_of_lt lt) (by rw [Heap.size_push]; exact Nat.lt_succ_of_lt lt)]
    exact Heap.get?_push_of_some _ q
end
end Rf
end
section
namespace Rf
open PySem PySem.Spec PyProof.Rows L2 PySem.W
/-! ### the same at the hand layer -/
def SetU0 (P : Program) (w : World) (h : Heap) (a : Addr) (L : List (Addr × List Str)) : Prop := ∃ (es : Array (Int × Value)) (ep : Nat) (t : SetTable), (∃ o, h.get? a = some o ∧ o.ExactSet ∧ o.data = .set es ep t) ∧ es.toList = rowsT (PySem.strKind P w) L ∧
  TabOk t (L.map fun p => tupleKeyHash (PySem.strKind P w) p.2) ∧ (L.map (·.2)).Nodup ∧ (w.params.followText "set-order" = true ∨ t.led = true) ∧ L.length * 5 < t.mask * 3 ∧ L.length < 64
def SetUO (P : Program) (w : World) (a : Addr) (L : List (Addr × List Str)) : HO := .ext fun h => SetU0 P w h a L
theorem SetU.u0 {P : Program} {w : World} {h : Heap} {a : Addr} {L : List (Addr × List Str)} {es : Array (Int × Value)} {ep : Nat} {t : SetTable} (R : SetU (PySem.strKind P w) h a L es ep t) : SetU0 P w h a L := ⟨es, ep, t, R.ob, R.rows, R.tab, R.nd, R.led, R.room, R.few⟩
theorem setUO_new {P : Program} {w : World} {H : Hp} {h : Heap} {a : Addr} {L : List (Addr × List Str)} (R : SetU0 P w h a L) : ObjOk P w H h a (SetUO P w a L) := by
  have ⟨es, ep, t, ⟨o, ho, r⟩, q⟩ := R
  refine ⟨R, ⟨o, ho⟩, fun h1 h2 p k => ?_⟩
  obtain ⟨es', ep', t', ⟨o', ho', r'⟩, q'⟩ := (show SetU0 P w h1 a L from p)
  exact ⟨es', ep', t', ⟨o', k o' ho', r'⟩, q'⟩
section
variable {X : Cx} {pins : List (Addr × Obj)} {σ : L2.St} {H : Hp} {s : Shared}
theorem items_strs {P : Program} {w : World} : ∀ {k : List Str} {us : List Value}, Vals (k.map V.str) us → ItemsAre (PySem.strKind P w) k us
  | [], _, .nil => .nil
  | x :: k, _, .cons r t => by
    obtain ⟨tk, rfl⟩ := r
    exact .cons (strKind_is P w x tk) (items_strs t)
theorem inv_tis {b : Addr} {k : List Str} (I : Inv X pins σ H s) (h : SqT X.K H b (k.map V.str)) : TIs (PySem.strKind X.prog X.w) s.heap k b := by
  obtain ⟨its, r, ⟨o, ho, hc, n, hd⟩, _⟩ := I.tuple h
  exact ⟨o, its.toArray, n, ho, hc, hd, by simpa using items_strs r⟩
theorem vals_refs : ∀ {ps : List (Addr × List Str)} {us : List Value}, Vals (ps.map fun p => V.ref p.1) us → us = ps.map fun p => Value.ref p.1
  | [], _, .nil => rfl
  | p :: ps, _, .cons r t => by
    cases r
    rw [vals_refs t]
    rfl
theorem refs_vals : ∀ (ps : List (Addr × List Str)), Vals (ps.map fun p => V.ref p.1) (ps.map fun p => Value.ref p.1)
  | [] => .nil
  | p :: ps => .cons rfl (refs_vals ps)
/-- a list of tuples of texts -/
def TupL (K : Frg) (H : Hp) (l : Addr) (ps : List (Addr × List Str)) : Prop := SqL K H l (ps.map fun p => V.ref p.1) ∧ ∀ p ∈ ps, H p.1 = some (.tup (p.2.map V.str))
def rSortTs (K : Frg) : List V → Hp → VK → Prop := fun vs H Q => ∃ (l : Addr) (ps : List (Addr × List Str)), vs = [V.ref l] ∧ TupL K H l ps ∧ ps.length ≤ sizeLine ∧ (ps.length ≤ 1 ∨ ∀ p ∈ ps, p.2 ≠ []) ∧
  ∀ (ps' : List (Addr × List Str)) (q : Addr), ps'.map (·.2) = (ps.map (·.2)).mergeSort leSs → (∀ p ∈ ps', p ∈ ps) → H q = none → Q (.ref q) (upd H q (.lst (ps'.map fun p => V.ref p.1)))
theorem cr_sortTs (hu : X.A.units + 64 < cLine) : CallR X (.builtin "sorted") (rSortTs X.K) := by
  intro pins s σ H vs us Q I r h
  obtain ⟨l, ps, rfl, ⟨hs, ht⟩, hz, hn, q⟩ := h
  obtain ⟨its, rv, hl, _⟩ := I.list hs
  rw [Vals.ref1 r]
  have e := vals_refs rv
  subst e
  have fin : ∀ ps' : List (Addr × List Str), ps'.map (·.2) = (ps.map (·.2)).mergeSort leSs → (∀ p ∈ ps', p ∈ ps) → EP X pins σ Q (.ref (s.heap.objs.size + 1)) { s with heap := sortedAll s.heap (ps.map fun p => Value.ref p.1) (ps'.map fun p => Value.ref p.1).toArray } := fun ps' e1 e2 => by
    obtain ⟨ep, he'⟩ := PyProof.Rows.sortedAll_at s.heap (ps.map fun p => Value.ref p.1) (ps'.map fun p => Value.ref p.1).toArray
    have hl' : (ps'.map fun p => V.ref p.1).length ≤ sizeLine := by
      have q := congrArg List.length e1
      rw [List.length_map, List.length_mergeSort, List.length_map] at q
      rw [List.length_map, q]
      exact hz
    exact ⟨.ref _, upd H (s.heap.objs.size + 1) (.lst (ps'.map fun p => V.ref p.1)), I.laid (t' := s.toks) (fun _ _ => PyProof.Rows.sortedAll_old) (Nat.le_succ _) ⟨hl', ps'.map fun p => Value.ref p.1, ep, refs_vals ps', he'⟩, rfl, q ps' _ e1 e2 (I.hok.fresh (Nat.le_succ _))⟩
  have tis : ∀ p ∈ ps, TIs (PySem.strKind X.prog X.w) s.heap p.2 p.1 := fun p hp => inv_tis I (.inl (.inl (ht p hp)))
  by_cases h1 : ps.length ≤ 1
  · refine sorted_one hl.isList (by rw [List.length_map]; exact h1) (fin ps ?_ fun p hp => hp)
    match ps, h1 with
    | [], _ => simp
    | [p], _ => simp
  · exact sorted_tups hl.isList tis (hn.resolve_left h1) hz (by omega) fin
def rSetTs (K : Frg) (P : Program) (w : World) : List V → Hp → VK → Prop := fun vs H Q => ∃ (l : Addr) (ps : List (Addr × List Str)), vs = [V.ref l] ∧ TupL K H l ps ∧ ps.length < 64 ∧
  ∀ (L : List (Addr × List Str)) (q : Addr), (∀ p ∈ L, p ∈ ps) → (∀ p ∈ ps, p.2 ∈ L.map (·.2)) → (L.map (·.2)).Nodup → H q = none → Q (.ref q) (upd H q (SetUO P w q L))
theorem cr_setTs (hc : X.calm = true) (hu : X.A.units + 64 < cLine) : CallR X (.type "set") (rSetTs X.K X.prog X.w) := by
  intro pins s σ H vs us Q I r h
  obtain ⟨l, ps, rfl, ⟨hs, ht⟩, h64, q⟩ := h
  obtain ⟨its, rv, hl, _⟩ := I.list hs
  rw [Vals.ref1 r]
  have e := vals_refs rv
  subst e
  have tis : ∀ p ∈ ps, TIs (PySem.strKind X.prog X.w) s.heap p.2 p.1 := fun p hp => inv_tis I (.inl (.inl (ht p hp)))
  have far : s.heap.get? s.heap.objs.size = none := by
    cases z : s.heap.get? s.heap.objs.size with
    | none => rfl
    | some o => exact absurd (Heap.lt_size z) (Nat.lt_irrefl _)
  refine set_gen (J := fun i h => ∃ L es ep t, SetU (PySem.strKind X.prog X.w) h s.heap.objs.size L es ep t ∧ GotU ps i L) (I.ok.hd hc) hl.isList (growU flatS (by simp) tis h64 far) (by omega)
    (fun h' e0 kp => ⟨[], #[], 0, _, setU_fresh e0, ⟨fun p hp => (by cases hp), fun p hp => (by simp at hp), Nat.le_refl _⟩⟩) fun h' tk ⟨L, es, ep, t, R, g⟩ kp => ?_
  have sz : (ps.map fun p => Value.ref p.1).toArray.size = ps.length := by simp
  rw [sz] at g
  have J : Inv X pins σ (upd H s.heap.objs.size (SetUO X.prog X.w s.heap.objs.size L)) { s with heap := h', toks := tk } := I.laid kp (Nat.le_refl _) (setUO_new R.u0)
  refine ⟨.ref _, _, J, rfl, q L _ (fun p hp => ?_) (fun p hp => ?_) R.nd (I.hok.fresh (Nat.le_refl _))⟩
  · have := g.sub p hp
    rw [List.take_length] at this
    exact this
  · exact g.all p (by rw [List.take_length]; exact hp)
def rSortSetTs (P : Program) (w : World) : List V → Hp → VK → Prop := fun vs H Q => ∃ (a : Addr) (L : List (Addr × List Str)), vs = [V.ref a] ∧ H a = some (SetUO P w a L) ∧ (∀ p ∈ L, H p.1 = some (.tup (p.2.map V.str))) ∧ (∀ p ∈ L, p.2 ≠ []) ∧
  ∀ (L' : List (Addr × List Str)) (bs : List (List Str)) (q : Addr), (∀ p ∈ L', p ∈ L) → bs.Perm (L.map (·.2)) → L'.map (·.2) = bs.mergeSort leSs → H q = none → Q (.ref q) (upd H q (.lst (L'.map fun p => V.ref p.1)))
theorem cr_sortSetTs (hc : X.calm = true) (hu : X.A.units + 64 < cLine) : CallR X (.builtin "sorted") (rSortSetTs X.prog X.w) := by
  intro pins s σ H vs us Q I r h
  obtain ⟨a, L, rfl, ha, ht, hne, q⟩ := h
  obtain ⟨es, ep, t, h1, h2, h3, h4, h5, h6, h7⟩ := (show SetU0 X.prog X.w s.heap a L from (I.hok a _ ha).1)
  have R : SetU (PySem.strKind X.prog X.w) s.heap a L es ep t := ⟨h1, h2, h3, h4, fun p hp => inv_tis I (.inl (.inl (ht p hp))), h5, h6, h7⟩
  rw [Vals.ref1 r]
  refine sorted_setU R (I.ok.hd hc) hne (by omega) fun s' p out c L' k g o hp hg ho hs ⟨bs, b1, b2⟩ => ?_
  have hn : H p = none := I.hok.fresh hp
  have hz : (L'.map fun p => V.ref p.1).length ≤ sizeLine := by
    have z := congrArg List.length b2
    rw [List.length_map, List.length_mergeSort, b1.length_eq, List.length_map] at z
    rw [List.length_map, z, sizeLine_eq]
    omega
  have J : Inv X pins σ (upd H p (.lst (L'.map fun p => V.ref p.1))) { s with heap := s'.heap, gens := s'.gens, drawn := s'.drawn, toks := s'.toks } :=
    I.call (ch := []) (Un.laid k hp hn) (I.hok.laid k hp ⟨hz, out.toList, c, by rw [ho]; exact refs_vals L', hg⟩) (by rw [g]; exact I.bare) (fun _ z => nomatch z)
  have e : s' = { s with heap := s'.heap, gens := s'.gens, drawn := s'.drawn, toks := s'.toks } := by
    cases s'
    cases s
    cases o
    rfl
  rw [e]
  exact ⟨.ref p, _, J, rfl, q L' bs p hs b1 b2 hn⟩
end
end Rf
end
section
namespace Rf
open PySem L2
/-! ### the order of texts, of tuples of texts -/
theorem leS_iff (a b : Str) : leS a b = true ↔ a.cps.toList ≤ b.cps.toList := by
  unfold leS
  rw [decide_eq_true_eq, List.not_lt]
theorem leS_refl (a : Str) : leS a a = true := (leS_iff a a).mpr (List.le_refl _)
theorem leS_trans (a b c : Str) (h : leS a b = true) (h' : leS b c = true) : leS a c = true := (leS_iff a c).mpr (List.le_trans ((leS_iff a b).mp h) ((leS_iff b c).mp h'))
theorem leS_total (a b : Str) : (leS a b || leS b a) = true := by
  rw [Bool.or_eq_true, leS_iff, leS_iff]
  exact List.le_total _ _
theorem leS_anti {a b : Str} (h : leS a b = true) (h' : leS b a = true) : a = b := str_ext (List.le_antisymm ((leS_iff a b).mp h) ((leS_iff b a).mp h'))
theorem leSs_trans : ∀ a b c : List Str, leSs a b = true → leSs b c = true → leSs a c = true
  | [], _, _, _, _ => rfl
  | _ :: _, [], _, h, _ => by cases h
  | _ :: _, _ :: _, [], _, h => by cases h
  | x :: a, y :: b, z :: c, h, h' => by
    have h : (if x = y then leSs a b else leS x y) = true := h
    have h' : (if y = z then leSs b c else leS y z) = true := h'
    show (if x = z then leSs a c else leS x z) = true
    by_cases e1 : x = y
    · subst e1
      rw [if_pos rfl] at h
      by_cases e2 : x = z
      · rw [if_pos e2]
        rw [if_pos e2] at h'
        exact leSs_trans a b c h h'
      · rw [if_neg e2]
        rw [if_neg e2] at h'
        exact h'
    · rw [if_neg e1] at h
      by_cases e2 : y = z
      · subst e2
        rw [if_neg e1]
        exact h
      · rw [if_neg e2] at h'
        by_cases e3 : x = z
        · subst e3
          exact absurd (leS_anti h h') e1
        · rw [if_neg e3]
          exact leS_trans x y z h h'
theorem leSs_total : ∀ a b : List Str, (leSs a b || leSs b a) = true
  | [], _ => rfl
  | _ :: _, [] => rfl
  | x :: a, y :: b => by
    show ((if x = y then leSs a b else leS x y) || (if y = x then leSs b a else leS y x)) = true
    by_cases e : x = y
    · subst e
      rw [if_pos rfl, if_pos rfl]
      exact leSs_total a b
    · rw [if_neg e, if_neg (fun z => e z.symm)]
      exact leS_total x y
theorem leSs_anti : ∀ a b : List Str, leSs a b = true → leSs b a = true → a = b
  | [], [], _, _ => rfl
  | [], _ :: _, _, h => by cases h
  | _ :: _, [], h, _ => by cases h
  | x :: a, y :: b, h, h' => by
    have h : (if x = y then leSs a b else leS x y) = true := h
    have h' : (if y = x then leSs b a else leS y x) = true := h'
    by_cases e : x = y
    · subst e
      rw [if_pos rfl] at h h'
      rw [leSs_anti a b h h']
    · rw [if_neg e] at h
      rw [if_neg (fun z => e z.symm)] at h'
      exact absurd (leS_anti h h') e
theorem uniqS {a b : List Str} (pa : a.Pairwise fun x y => leS x y = true) (pb : b.Pairwise fun x y => leS x y = true) (h : a.Perm b) : a = b := List.Perm.eq_of_pairwise (fun x y _ _ h1 h2 => leS_anti h1 h2) pa pb h
theorem uniqSs {a b : List (List Str)} (pa : a.Pairwise fun x y => leSs x y = true) (pb : b.Pairwise fun x y => leSs x y = true) (h : a.Perm b) : a = b := List.Perm.eq_of_pairwise (fun x y _ _ h1 h2 => leSs_anti x y h1 h2) pa pb h
theorem rising_pw : ∀ (ys : List Str) (x : Str), PyProof.Rows.risingS x ys = true → (x :: ys).Pairwise fun a b => leS a b = true
  | [], x, _ => List.pairwise_singleton _ _
  | y :: ys, x, h => by
    have h : (!PySem.Spec.ltCps y.cps.toList x.cps.toList && PyProof.Rows.risingS y ys) = true := h
    rw [Bool.and_eq_true] at h
    have r := rising_pw ys y h.2
    have hxy : leS x y = true := by
      have q := h.1
      rw [PyProof.Rows.ltCps_eq] at q
      unfold leS
      rw [decide_eq_true_eq]
      intro z
      rw [decide_eq_true z] at q
      cases q
    refine List.pairwise_cons.mpr ⟨fun z hz => ?_, r⟩
    rcases List.mem_cons.mp hz with e | e
    · rw [e]; exact hxy
    · exact leS_trans x y z hxy ((List.pairwise_cons.mp r).1 z e)
theorem sorted_pw {ys : List Str} (h : PyProof.Rows.sortedS ys = true) : ys.Pairwise fun a b => leS a b = true := by
  cases ys with
  | nil => exact List.Pairwise.nil
  | cons x r => exact rising_pw r x h
theorem sortS_eq {ys l : List Str} (h : PyProof.Rows.sortedS ys = true) (p : ys.Perm l) : ys = l.mergeSort leS :=
  uniqS (sorted_pw h) (List.pairwise_mergeSort leS_trans leS_total l) (p.trans (List.mergeSort_perm l leS).symm)
theorem sortSs_eq {a b : List (List Str)} (p : a.Perm b) : a.mergeSort leSs = b.mergeSort leSs :=
  uniqSs (List.pairwise_mergeSort leSs_trans leSs_total a) (List.pairwise_mergeSort leSs_trans leSs_total b) ((List.mergeSort_perm a leSs).trans (p.trans (List.mergeSort_perm b leSs).symm))
theorem sortS_perm {a b : List Str} (p : a.Perm b) : a.mergeSort leS = b.mergeSort leS :=
  uniqS (List.pairwise_mergeSort leS_trans leS_total a) (List.pairwise_mergeSort leS_trans leS_total b) ((List.mergeSort_perm a leS).trans (p.trans (List.mergeSort_perm b leS).symm))
/-! ### lists of tuples of texts in the store -/
theorem tups_rep {K : Frg} {G : Hp} {μ : Mu} {n : Nat} : ∀ {xs : List D} {vs : List V} {ts : List (List Str)}, Reps K G μ n xs vs → tupsD xs = some ts → ∃ ps : List (Addr × List Str), vs = ps.map (fun p => V.ref p.1) ∧ ps.map (·.2) = ts ∧ ∀ p ∈ ps, G p.1 = some (.tup (p.2.map V.str)) ∧ p.2.length ≤ sizeLine
  | [], vs, ts, h, e => by
    simp only [Reps] at h
    cases e
    exact ⟨[], h, rfl, fun p hp => by cases hp⟩
  | d :: ds, vs, ts, h, e => by
    simp only [Reps] at h
    obtain ⟨v, ws, rfl, rv, rs⟩ := h
    cases d with
    | tup b =>
      have e : (match strsD b, tupsD ds with | some s, some r => some (s :: r) | _, _ => none) = some ts := e
      cases e1 : strsD b with
      | none => rw [e1] at e; cases e
      | some sb =>
        cases e2 : tupsD ds with
        | none => rw [e1, e2] at e; cases e
        | some r =>
          rw [e1, e2] at e
          cases e
          obtain ⟨ps, q1, q2, q3⟩ := tups_rep rs e2
          simp only [Rep] at rv
          obtain ⟨p, us, rfl, ru, zz, c⟩ := rv
          have eu := strs_rep ru e1
          subst eu
          have hc : G p = some (.tup (sb.map V.str)) := by
            rcases c with c | ⟨c, _⟩
            · exact c
            · match b, e1, c with
              | [.int _, .int _], e1, _ => cases e1
          refine ⟨(p, sb) :: ps, by rw [q1]; rfl, by rw [List.map_cons, q2], fun x hx => ?_⟩
          rcases List.mem_cons.mp hx with z | z
          · rw [z]; exact ⟨hc, by rw [List.length_map] at zz; exact zz⟩
          · exact q3 x z
    | _ => cases e
theorem tups_back {K : Frg} {G : Hp} {μ : Mu} {n : Nat} : ∀ {ps : List (Addr × List Str)}, (∀ p ∈ ps, G p.1 = some (.tup (p.2.map V.str)) ∧ p.2.length ≤ sizeLine) → Reps K G μ n (ps.map fun p => .tup (p.2.map .str)) (ps.map fun p => V.ref p.1)
  | [], _ => Reps.nil
  | p :: ps, h => by
    refine Reps.cons ?_ (tups_back fun q hq => h q (List.mem_cons_of_mem _ hq))
    obtain ⟨h1, h2⟩ := h p List.mem_cons_self
    simp only [Rep]
    exact ⟨p.1, p.2.map V.str, rfl, strs_back p.2, by rw [List.length_map]; exact h2, .inl h1⟩
end Rf
end
section
namespace Rf
open PySem PySem.Spec PyProof.Rows L2
/-! ### sets of ints out of lists -/
section
variable {P : Program} {w : World} {A : Around} {E : Value → Shared → Prop} {s : Shared}
theorem growI {h0 : Heap} {S : Addr} {items : Array Value} {ns : List Int} (hi : IntsAre items.toList ns) (hn : ns.length < 4000) : Grow P w h0 S items (fun i h => SetR w h S (fun j => decide (j ∈ ns.take i)) (once (ns.take i).reverse).length) where
  keep := fun i h h' j k _ => j.at k
  step := fun i v A E s Q hu hv j kp hQ => by
    have hsz : items.size = ns.length := by
      have q := IntsAre.length hi
      rw [Array.length_toList] at q
      exact q
    have hl : i < ns.length := by rw [← hsz]; exact (Array.getElem?_eq_some_iff.mp hv).1
    obtain ⟨t, e⟩ := IntsAre.int_at hi i v (by rw [Array.getElem?_toList]; exact hv)
    have ek : ns[i]? = some ns[i] := List.getElem?_eq_getElem hl
    rw [List.getD_eq_getElem?_getD, ek] at e
    have e : v = .int ns[i] t := e
    subst e
    generalize hz : ns[i] = z at ek hv ⊢
    unfold setAdd
    refine wpAny_holding ?_
    refine wpAny_bind ((intKind P w).pyHash (k := z) (intKind_is P w z t) ?_)
    have room : (once (ns.take i).reverse).length + 1 < scanBound := by
      have := once_len (ns.take i).reverse
      rw [List.length_reverse, List.length_take] at this
      have h2 : min i ns.length ≤ i := Nat.min_le_left _ _
      unfold scanBound
      omega
    refine setR_add_hashed (s := { s with toks := s.toks + 1 }) j room fun h' sb r => hQ _ h' (s.toks + 1) (Nat.le_succ _) sb ?_
    have et : (ns.take (i + 1)).reverse = z :: (ns.take i).reverse := by
      rw [List.take_succ, ek]
      simp
    have ec : (once (ns.take (i + 1)).reverse).length = if decide (z ∈ ns.take i) = true then (once (ns.take i).reverse).length else (once (ns.take i).reverse).length + 1 := by
      rw [et]
      show (if z ∈ once (ns.take i).reverse then once (ns.take i).reverse else z :: once (ns.take i).reverse).length = _
      by_cases hm : z ∈ ns.take i
      · have hm2 : z ∈ once (ns.take i).reverse := by rw [once_mem, List.mem_reverse]; exact hm
        rw [if_pos hm2, if_pos (decide_eq_true hm)]
      · have hm2 : ¬ z ∈ once (ns.take i).reverse := by rw [once_mem, List.mem_reverse]; exact hm
        rw [if_neg hm2, if_neg (by simpa using hm), List.length_cons]
    rw [ec]
    refine SetR.congr r fun k => ?_
    rw [List.take_succ, ek]
    simp [List.mem_append]
/-- set(a list of ints) -/
theorem call_setI {l : Addr} {items : Array Value} {ns : List Int} {Q : Value → Shared → Prop} (hh : A.handled = none) (hl : s.heap.IsList l items) (hi : IntsAre items.toList ns) (hn : ns.length < 4000) (hu : A.units + 3 < cLine)
    (hQ : ∀ (h' : Heap) (tk : Nat), SetR w h' s.heap.objs.size (fun j => decide (j ∈ ns)) (once ns.reverse).length → (∀ b o, s.heap.get? b = some o → h'.get? b = some o) → Q (.ref s.heap.objs.size) { s with heap := h', toks := tk }) :
    wpAny (model P w) A (call (.type "set") [.ref l]) Q E s := by
  have hsz : items.size = ns.length := by
    have q := IntsAre.length hi
    rw [Array.length_toList] at q
    exact q
  refine set_gen hh hl (growI hi hn) hu (fun h' e _ => setR_new_at (ns := ns) e) fun h' tk j kp => hQ h' tk ?_ kp
  rw [hsz, List.take_length] at j
  exact j
end
section
variable {X : Cx}
def rSetI (K : Frg) (w : World) : List V → Hp → VK → Prop := fun vs H Q => ∃ (a : Addr) (ns : List Int), vs = [V.ref a] ∧ SqL K H a (ns.map V.int) ∧ ns.length < 4000 ∧
  ∀ p : Addr, H p = none → Q (.ref p) (upd H p (SetO w p (fun j => decide (j ∈ ns)) (once ns.reverse).length))
theorem cr_setI (hc : X.calm = true) (hu : X.A.units + 64 < cLine) : CallR X (.type "set") (rSetI X.K X.w) := by
  intro pins s σ H vs us Q I r h
  obtain ⟨a, ns, rfl, hs, hn, q⟩ := h
  obtain ⟨its, rv, hl, _⟩ := I.list hs
  rw [Vals.ref1 r]
  refine call_setI (I.ok.hd hc) hl.isList rv.ints hn (by omega) fun h' tk R kp => ?_
  have J : Inv X pins σ (upd H s.heap.objs.size (SetO X.w s.heap.objs.size (fun j => decide (j ∈ ns)) (once ns.reverse).length)) { s with heap := h', toks := tk } := I.laid kp (Nat.le_refl _) (setO_new R)
  exact ⟨.ref _, _, J, rfl, q _ (I.hok.fresh (Nat.le_refl _))⟩
end
theorem once_perm {α : Type} [DecidableEq α] (xs : List α) : (once xs.reverse).Perm (once xs) :=
  (List.perm_ext_iff_of_nodup (once_nodup _) (once_nodup _)).mpr fun y => by rw [once_mem, once_mem, List.mem_reverse]
/-- ints that rise and are the same are the same list -/
theorem sortI_eq {ys ns : List Int} (h : ys.Pairwise (· < ·)) (m : ∀ k, k ∈ ys ↔ k ∈ ns) : ys = (once ns).mergeSort leI := by
  have pw : ((once ns).mergeSort leI).Pairwise fun a b => leI a b = true := List.pairwise_mergeSort (fun a b c h1 h2 => by unfold leI at *; simp at *; omega) (fun a b => by unfold leI; simp; omega) _
  refine List.Perm.eq_of_pairwise (le := fun a b => leI a b = true) (fun a b _ _ h1 h2 => by unfold leI at *; simp at *; omega) (h.imp fun h => by unfold leI; simp; omega) pw ?_
  refine List.Perm.trans ?_ (List.mergeSort_perm _ _).symm
  exact (List.perm_ext_iff_of_nodup (h.imp fun h => by omega) (once_nodup _)).mpr fun y => by rw [once_mem]; exact m y
end Rf
end
section
namespace Rf
open PySem L2
section
variable {X : Cx} {W : WX} {ft : FT} {pos p p2 p3 : Pos} {l : Expr} {a : E}
theorem crOr {f : Value} {r r' : List V → Hp → VK → Prop} (h : CallR X f r) (h' : CallR X f r') : CallR X f (fun xs H Q => r xs H Q ∨ r' xs H Q) := by
  intro pins s σ H xs us Q I rr q
  rcases q with q | q
  · exact h pins s σ H xs us Q I rr q
  · exact h' pins s σ H xs us Q I rr q
theorem ne_of_all {ts : List (List Str)} (h : ts.all (fun t => !t.isEmpty) = true) : ∀ t ∈ ts, t ≠ [] := fun t ht z => by
  have := List.all_eq_true.mp h t ht
  rw [z] at this
  cases this
/-- the new list behind a set that is forgotten -/
theorem two_new {K : Frg} {H : Hp} {μ : Mu} {Ω : Sto} {xs : List D} {vs : List V} {q q2 : Addr} {o : HO} {Q : VK} (w : Wf K H μ Ω) (k : Want K H μ Ω (.lst xs) Q) (hq : H q = none) (hq2 : (upd H q o) q2 = none)
    (r : Reps K (Fz H μ Ω) μ Ω.length xs vs) (z : vs.length ≤ sizeLine) : Q (.ref q2) (upd (upd H q o) q2 (.lst vs)) := by
  have e1 := Ext.new (o := o) w hq
  obtain ⟨e2, rp⟩ := res_lst e1.wf (Reps.tr e1.tr _ _ r) z hq2
  exact k _ _ (e1.trans e2) rp
theorem s_sset (hc : X.calm = true) (hu : X.A.units + 64 < cLine) (hg : Gl X "sorted") (hm : X.mg "sorted" = none) (hg2 : Gl X "set") (hm2 : X.mg "set" = none) (ha : PE X l (TEv X.K W ft a)) (hp : plainE l = true) :
    PE X (.Call (.Name "sorted" p) [.Call (.Name "set" p2) [l] [] p3] [] pos) (TEv X.K W ft (.sset a)) := by
  have inner := pe_callTy (p := p2) (pos := p3) (crOr (crOr (cr_setS hc hu) (cr_setTs hc hu)) (cr_setI hc hu)) hg2 hm2 (by decide +kernel) (pa_cons ha pa_nil (star_cons hp)) (by decide +kernel) (by decide +kernel) (star_cons hp) rfl
  refine (pe_callB (crOr (crOr (cr_sortSetS hc) (cr_sortSetTs hc hu)) (cr_sortedSet hc)) hg hm (by decide +kernel) (pa_cons inner pa_nil rfl) (by decide +kernel) (by decide +kernel) rfl rfl).imp fun σ H Q ⟨μ, Ω, ρ, at_, p⟩ => ?_
  obtain ⟨μ0, Ω0, ρ0, a0, p0⟩ := one at_ p
  refine ⟨μ0, Ω0, ρ0, a0, p0.mono ?_⟩
  rintro v H1 ⟨μ1, Ω1, x, a1, r1, p1⟩
  obtain ⟨d, e, k⟩ := p1.optD
  have vx := view a1.wf r1
  generalize lk Ω1 x = x' at vx e
  cases x' with
  | lst xs =>
    obtain ⟨q, vs, rfl, rr, z, c⟩ := vx
    have e : (match strsD xs with
      | some ss => if ss.length < 64 then some (D.lst (((once ss).mergeSort leS).map .str)) else none
      | none => match intsD xs with
        | some ns => if ns.length < 4000 ∧ (once ns).length < 64 then some (.lst (((once ns).mergeSort leI).map .int)) else none
        | none => match tupsD xs with
        | some ts => if ts.length < 64 ∧ ts.all (fun t => !t.isEmpty) = true then some (.lst (((once ts).mergeSort leSs).map fun t => .tup (t.map .str))) else none
        | none => none) = some d := e
    cases e1 : strsD xs with
    | some ss =>
      rw [e1] at e
      obtain ⟨h64, rfl⟩ := opt_if e
      have ev := strs_rep rr e1
      subst ev
      refine .inl (.inl ⟨q, ss, rfl, .inl (.inl c), h64, fun ys q1 nd mem l64 hq1 => .inl (.inl ⟨q1, ys, rfl, upd_same, l64, fun zs q2 pm srt hq2 => ?_⟩)⟩)
      have pe : ys.Perm (once ss) := (List.perm_ext_iff_of_nodup nd (once_nodup ss)).mpr fun y => by rw [mem y, once_mem]
      have ez : zs = (once ss).mergeSort leS := (sortS_eq srt pm).trans (sortS_perm pe)
      subst ez
      exact two_new a1.wf k hq1 hq2 (strs_back _) (by
        rw [List.length_map, List.length_mergeSort, ← big_eq]
        exact Nat.le_trans (once_len ss) (Nat.le_trans (Nat.le_of_lt h64) (by decide)))
    | none =>
      rw [e1] at e
      simp only at e
      cases e3 : intsD xs with
      | some ns =>
        rw [e3] at e
        obtain ⟨⟨h4, h64⟩, rfl⟩ := opt_if e
        have ev := ints_rep rr e3
        subst ev
        have ol : (once ns.reverse).length = (once ns).length := (once_perm ns).length_eq
        refine .inr ⟨q, ns, rfl, .inl (.inl c), h4, fun q1 hq1 => .inr ⟨q1, _, _, rfl, upd_same, by rw [ol]; exact h64, fun ys q2 pw mem len hq2 => ?_⟩⟩
        have ez : ys = (once ns).mergeSort leI := sortI_eq pw fun k => by rw [mem k]; simp
        subst ez
        exact two_new a1.wf k hq1 hq2 (ints_back _) (by
          rw [List.length_map, List.length_mergeSort, ← big_eq]
          exact Nat.le_trans (Nat.le_of_lt h64) (by decide))
      | none =>
      rw [e3] at e
      simp only at e
      cases e2 : tupsD xs with
      | none => rw [e2] at e; cases e
      | some ts =>
        rw [e2] at e
        obtain ⟨⟨h64, hne⟩, rfl⟩ := opt_if e
        obtain ⟨ps, rfl, eps, tp⟩ := tups_rep rr e2
        have l1 : ps.length = ts.length := by rw [← eps, List.length_map]
        refine .inl (.inr ⟨q, ps, rfl, ⟨.inl (.inl c), fun p hp => Fz.le (tp p hp).1⟩, by rw [l1]; exact h64, fun L q1 sub all nd hq1 => .inl (.inr ⟨q1, L, rfl, upd_same, fun p hp => ?_, fun p hp => ?_, fun L' bs q2 sub' pb eL hq2 => ?_⟩)⟩)
        · have h1 := Fz.le (tp p (sub p hp)).1
          rw [upd_ne (ne_of_none h1 hq1)]
          exact h1
        · refine ne_of_all hne p.2 ?_
          rw [← eps]
          exact List.mem_map.mpr ⟨p, sub p hp, rfl⟩
        · have pe : bs.Perm (once ts) := pb.trans ((List.perm_ext_iff_of_nodup nd (once_nodup ts)).mpr fun y => by
            rw [once_mem]
            constructor
            · intro hy
              obtain ⟨p, hp, rfl⟩ := List.mem_map.mp hy
              rw [← eps]
              exact List.mem_map.mpr ⟨p, sub p hp, rfl⟩
            · intro hy
              rw [← eps] at hy
              obtain ⟨p, hp, rfl⟩ := List.mem_map.mp hy
              exact all p hp)
          rw [sortSs_eq pe] at eL
          have ed : ((once ts).mergeSort leSs).map (fun t => D.tup (t.map .str)) = L'.map fun p => D.tup (p.2.map .str) := by rw [← eL, List.map_map]; rfl
          rw [ed] at k
          refine two_new a1.wf k hq1 hq2 (tups_back fun p hp => tp p (sub p (sub' p hp))) ?_
          have lz := congrArg List.length eL
          rw [List.length_map, List.length_mergeSort] at lz
          rw [List.length_map, lz, ← big_eq]
          exact Nat.le_trans (once_len ts) (Nat.le_trans (Nat.le_of_lt h64) (by decide))
  | _ => cases e
end
end Rf
end
section
namespace Rf
open PySem L2
section
variable {X : Cx}
theorem sorted_ok (hu : X.A.units + 64 < cLine) : CallR X (.builtin "sorted") (rb X.K (biD .sorted)) := by
  intro pins s σ H xs us Q I r ⟨μ, Ω, ds, d, w, pv, e, k⟩
  match ds, pv, e with
  | [.lst ys], pv, e =>
    obtain ⟨v, rfl, vx⟩ := paired1 pv
    obtain ⟨q, vs, rfl, rr, z, c⟩ := vx
    have e : (match strsD ys with
      | some ss => if ss.length < 64 then some (D.lst ((ss.mergeSort leS).map .str)) else none
      | none => match tupsD ys with
        | some ts => if ts.length ≤ 1 ∨ ts.all (fun t => !t.isEmpty) = true then some (.lst ((ts.mergeSort leSs).map fun t => .tup (t.map .str))) else none
        | none => none) = some d := e
    cases e1 : strsD ys with
    | some ss =>
      rw [e1] at e
      obtain ⟨h64, rfl⟩ := opt_if e
      have ev := strs_rep rr e1
      subst ev
      refine cr_sortedS pins s σ H _ us Q I r ⟨q, ss, rfl, .inl (.inl c), h64, fun zs p2 pm srt hp => ?_⟩
      have ez : zs = ss.mergeSort leS := sortS_eq srt pm
      subst ez
      exact k.lst w (strs_back _) (by
        rw [List.length_map, List.length_mergeSort, ← big_eq]
        exact Nat.le_trans (Nat.le_of_lt h64) (by decide)) p2 hp
    | none =>
      rw [e1] at e
      simp only at e
      cases e2 : tupsD ys with
      | none => rw [e2] at e; cases e
      | some ts =>
        rw [e2] at e
        obtain ⟨hne, rfl⟩ := opt_if e
        obtain ⟨ps, rfl, eps, tp⟩ := tups_rep rr e2
        have l1 : ps.length = ts.length := by rw [← eps, List.length_map]
        rw [List.length_map] at z
        refine cr_sortTs hu pins s σ H _ us Q I r ⟨q, ps, rfl, ⟨.inl (.inl c), fun p hp => Fz.le (tp p hp).1⟩, z, ?_, fun ps' p2 eL sub hp => ?_⟩
        · rcases hne with h | h
          · exact .inl (by rw [l1]; exact h)
          · refine .inr fun p hp => ne_of_all h p.2 ?_
            rw [← eps]
            exact List.mem_map.mpr ⟨p, hp, rfl⟩
        · rw [eps] at eL
          have ed : (ts.mergeSort leSs).map (fun t => D.tup (t.map .str)) = ps'.map fun p => D.tup (p.2.map .str) := by rw [← eL, List.map_map]; rfl
          rw [ed] at k
          refine k.lst w (tups_back fun p hp => tp p (sub p hp)) ?_ p2 hp
          have lz := congrArg List.length eL
          rw [List.length_map, List.length_mergeSort] at lz
          rw [List.length_map, lz, ← l1]
          exact z
  | [], _, e => cases e
  | .lst _ :: _ :: _, _, e => cases e
  | [.non], _, e => cases e
  | [.bl _], _, e => cases e
  | [.int _], _, e => cases e
  | [.str _], _, e => cases e
  | [.tup _], _, e => cases e
  | [.e0], _, e => cases e
  | [.scr _], _, e => cases e
  | [.dk _], _, e => cases e
  | [.dt _], _, e => cases e
  | [.ins _ _], _, e => cases e
  | [.hd _], _, e => cases e
  | d1 :: _ :: _, _, e => cases d1 <;> cases e
end
end Rf
end
section
namespace Rf
open PySem L2
section
variable {X : Cx} {W : WX} {ft : FT} {pos p : Pos} {l : Expr} {a : E} {es : List Expr} {el : EL}
/-! ### list(..) as a new object that may change -/
def rbN (K : Frg) : List V → Hp → VK → Prop := fun xs H Q => ∃ μ Ω c ys v, xs = [v] ∧ Wf K H μ Ω ∧ View K H μ Ω c v ∧ listD c = some (.lst ys) ∧ ∀ vs, Reps K (Fz H μ Ω) μ Ω.length ys vs → vs.length ≤ sizeLine → ∀ q, H q = none → Q (.ref q) (upd H q (.lst vs))
theorem listN_ok (hc : X.calm = true) : CallR X (.type "list") (rbN X.K) := by
  intro pins s σ H xs us Q I r h
  obtain ⟨μ, Ω, c, ys, v, rfl, w, vc, e, k⟩ := h
  have seq : ∀ zs : List D, seqD c = some zs → zs = ys → wpAny (model X.prog X.w) X.A (call (.type "list") us) (EP X pins σ Q) X.xe s := fun zs e2 e3 => by
    subst e3
    obtain ⟨p, vs, rfl, rr, z, c⟩ := view_seq vc e2
    exact call_list_of pins s σ H _ us Q I r ⟨p, vs, rfl, c, k vs rr z⟩
  cases c with
  | dk kvs =>
    cases e
    obtain ⟨p, ws, rfl, rr, c⟩ := vc
    obtain ⟨u, rfl, ru⟩ := vals1 r
    cases ru
    exact list_dk hc I c (k _ (keys_back rr) (by rw [List.length_map]; exact (dk_rd I.hok c).1))
  | lst zs => cases e; exact seq _ rfl rfl
  | tup zs => cases e; exact seq _ rfl rfl
  | e0 => cases e; exact seq _ rfl rfl
  | scr ns => cases e; exact seq _ rfl rfl
  | _ => cases e
theorem s_newb (hc : X.calm = true) (hg : Gl X "list") (hm : X.mg "list" = none) (ha : PE X l (TEv X.K W ft a)) (hp : plainE l = true) : PE X (.Call (.Name "list" p) [l] [] pos) (TEv X.K W ft (.newb a)) := by
  refine (pe_callTy (listN_ok hc) hg hm (by decide +kernel) (pa_cons ha pa_nil (star_cons hp)) (by decide +kernel) (by decide +kernel) (star_cons hp) rfl).imp fun σ H Q ⟨μ, Ω, ρ, at_, p⟩ => ?_
  obtain ⟨μ0, Ω0, ρ0, a0, p0⟩ := one at_ p
  refine ⟨μ0, Ω0, ρ0, a0, p0.mono ?_⟩
  rintro v H1 ⟨μ1, Ω1, x, a1, r1, p1⟩
  have vx := view a1.wf r1
  have p1 : Post X.K (rD X.K) W σ H1 μ1 Ω1 (match listD (lk Ω1 x) with | some (.lst xs) => .ok (.hd Ω1.length) (Ω1 ++ [.lst xs]) | _ => .bad) Q := p1
  cases e : listD (lk Ω1 x) with
  | none => rw [e] at p1; exact False.elim p1
  | some d =>
    rw [e] at p1
    cases d with
    | lst ys => exact ⟨μ1, Ω1, _, ys, v, rfl, a1.wf, vx, e, fun vs rr z => push_want (ob := .lst ys) a1 ⟨vs, rfl, rr, z⟩ p1⟩
    | _ => exact False.elim p1
/-! ### all built-ins that are proved -/
def Bi.okA : Bi → Bool
  | .mn => false
  | _ => true
theorem s_biA (f : Bi) (hf : f.okA = true) (hu : X.A.units + 64 < cLine) (hc : X.calm = true) (hg : Gl X f.name) (hm : X.mg f.name = none) (ha : PA X (l :: es) (TAv X.K W ft el)) (he : starEach (l :: es) X.env = (false, eval l X.env) :: starEach es X.env) (hpl : (backTo pos (starEach es X.env)).any (·.1) = false) :
    PE X (.Call (.Name f.name p) (l :: es) [] pos) (TEv X.K W ft (.bi f el)) := by
  cases f with
  | sorted => exact (pe_callB (sorted_ok hu) hg hm (by decide +kernel) ha (by decide +kernel) (by decide +kernel) he hpl).imp fun _ _ _ h => i_bi h
  | mn => cases hf
  | _ => exact s_bi _ rfl hc hu hg hm ha he hpl
end
end Rf
end
section
namespace Rf
open PySem L2 PySem.Spec PyProof.Rows
/-! ### enumerate(tuple) -/
theorem enum_newT (l : Addr) (xs : Array Value) :
    Meets (Builtin.«enumerate.__new__» ⟨[.type "enumerate", .ref l], []⟩) (fun _ R s => s.heap.IsTuple l xs ∧
      R (.ok (.ret (.ref (s.heap.push { cls := .type "tuple_iterator", data := .fields #[.ref l, .int 0 0] }).objs.size)))
        { s with heap := (s.heap.push { cls := .type "tuple_iterator", data := .fields #[.ref l, .int 0 0] }).push { cls := .type "enumerate", data := .fields #[.none, .bool false, .ref s.heap.objs.size, rawInt 0, .none, .none] } }) :=
  .of_wp fun prog w A R s h => by
    obtain ⟨hp, g, dd, tok, oss⟩ := s; obtain ⟨hl, h⟩ := h
    have hsub := sub_enumerate
    have q1 : ∀ {A' : Around} {E : Value → Shared → Prop} {Q : Value → Shared → Prop}, Q (.ref hp.objs.size) ⟨(hp.push { cls := .type "tuple_iterator", data := .fields #[.ref l, .int 0 0] }), g, dd, tok, oss⟩ → wpAny (model prog w) A' (pyIter (.ref l)) Q E ⟨hp, g, dd, tok, oss⟩ :=
      fun q => wpAny_pyIter_tuple hl q
    obtain ⟨⟨cl, dct, dt, sl⟩, hl1, hc1, n, hd1⟩ := hl
    have hl2 : (Shared.heap ⟨hp, g, dd, tok, oss⟩).get? l = some ⟨cl, dct, dt, sl⟩ := hl1
    wp_walk using AutoSeq1.wpAny_loadPart' hl1, q1
    refine wpAny_stack_any fun st => wpAny_pure ?_
    split
    · rename_i cc _ _ _ _ _
      cases (cc == Value.type "enumerate")
      · wp_walk using AutoSeq1.wpAny_loadPart' hl1, q1
        exact ⟨_, rfl, h⟩
      · wp_walk using AutoSeq1.wpAny_loadPart' hl1, q1
        exact ⟨_, rfl, h⟩
    · wp_walk using AutoSeq1.wpAny_loadPart' hl1, q1
      exact ⟨_, rfl, h⟩

section
variable {prog : Program} {w : World} {A : Around} {E : Value → Shared → Prop} {s : Shared}
theorem call_enumT {l : Addr} {xs : Array Value} {Q : Value → Shared → Prop} (hL : s.heap.IsTuple l xs)
    (k : ∀ h', IsEnum h' (s.heap.objs.size + 1) s.heap.objs.size 0 .none → h'.IsTupleIter s.heap.objs.size l 0 → h'.objs.size = s.heap.objs.size + 2 →
      (∀ b ob, s.heap.get? b = some ob → h'.get? b = some ob) → Q (.ref (s.heap.objs.size + 1)) { s with heap := h' }) :
    wpAny (model prog w) A (call (.type "enumerate") [.ref l]) Q E s := by
  refine callType_new F.called_enumerate (by decide) (F.typeCall_enumerate_1 _) (F.newCall_enumerate_1 _) (fun ob => F.args_object_init_2 ob _) F.entry_enumerate_new (enum_newT l xs) ⟨hL, ?_⟩
  have zz : (s.heap.push { cls := .type "tuple_iterator", data := .fields #[.ref l, .int 0 0] }).objs.size = s.heap.objs.size + 1 := Heap.size_push ..
  show _ ∧ _
  rw [zz]
  have en : IsEnum ((s.heap.push { cls := .type "tuple_iterator", data := .fields #[.ref l, .int 0 0] }).push
      { cls := .type "enumerate", data := .fields #[.none, .bool false, .ref s.heap.objs.size, rawInt 0, .none, .none] }) (s.heap.objs.size + 1) s.heap.objs.size 0 .none := by
    have q := Heap.get?_push_size (s.heap.push { cls := .type "tuple_iterator", data := .fields #[.ref l, .int 0 0] })
      (o := { cls := .type "enumerate", data := .fields #[.none, .bool false, .ref s.heap.objs.size, rawInt 0, .none, .none] }) rfl
    rw [zz] at q; exact q
  exact ⟨⟨_, en, rfl⟩, k _ en ⟨_, Heap.get?_push_of_some _ (Heap.get?_push_size _ rfl), rfl, rfl⟩ (by rw [Heap.size_push, zz]) fun b ob x => Heap.get?_push_of_some _ (Heap.get?_push_of_some _ x)⟩
theorem enumT_end {e it t : Addr} {i : Nat} {xs : Array Value} {j : Int} {old : Value} {Q : Option Value → Shared → Prop} (hh : A.handled = none) (he : IsEnum s.heap e it j old) (hit : s.heap.IsTupleIter it t i) (ht : s.heap.IsTuple t xs) (hx : xs[i]? = none)
    (k : ∀ h', Heap.ExtBut it s.heap h' → Q none { s with heap := h' }) : wpAny (model prog w) A (pyNext (.ref e)) Q E s := by
  have ty : s.TypeIs (.ref e) "enumerate" := ⟨_, he, rfl⟩
  unfold pyNext
  refine wpAny_bind (wpAny_attempt (wpAny_callSpecial?_slot (name := Str.ofString "__next__") ty F.slot_enumerate_next (wpAny_call_entry F.slot_enumerate_next ty F.entry_enumerate_next ?_ (F.args_enumerate_next_1 _))))
  show wpAny _ A.in1 (field (.ref e) 2 >>= _) _ _ _
  refine wpAny_bind (wpAny_field he rfl (x := .ref it) rfl ?_)
  refine wpAny_bind (wpAny_nextOf_tuple_end (A := A.in1) hh hit ht hx fun h' x he' hx' => ?_)
  obtain ⟨ob, ho, hc⟩ := hx'
  exact wpAny_bind (wpAny_isInstance (T := "StopIteration") (b := true) ⟨ob, ho, hc⟩ isSubtype_stop (wpAny_pure (k _ he')))
end
/-- the tuple at a, each item in a new pair -/
def ItEn (K : Frg) (a : Addr) : It :=
  ⟨fun i H => ∃ (xs : List V) (x : V), SqT K H a xs ∧ xs[i]? = some x, fun i H v H' => ∃ T x, v = .ref T ∧ H T = none ∧ H' = upd H T (.tup [.int (i : Nat), x]) ∧ ∀ xs, SqT K H a xs → xs[i]? = some x, fun i H => ∃ xs : List V, SqT K H a xs ∧ xs.length ≤ i⟩
theorem turn_enT {P : Program} {w : World} {K : Frg} {elts : List Expr} {kk : Nat} {tpos : Pos} (a e it : Addr) :
    Turn P w K (.Tuple elts kk tpos) (ItEn K a) [e, it] e (fun i h => (∃ old, IsEnum h e it ((i : Nat) : Int) old) ∧ h.IsTupleIter it a i ∧ e ≠ it ∧ a ≠ it ∧ a ≠ e) where
  mem := by simp
  obj := fun i h st b hb => by
    obtain ⟨⟨old, he⟩, ⟨ob, ho, hc, hd⟩, _⟩ := st
    have e' : b = e ∨ b = it := by simpa using hb
    rcases e' with z | z
    · subst z; exact ⟨_, he, fun v q => nomatch q⟩
    · subst z; exact ⟨ob, ho, fun v q => by rw [hd] at q; cases q⟩
  keep := fun i h h' st k => let ⟨⟨old, he⟩, hi, hne⟩ := st; ⟨⟨old, k e (by simp) _ he⟩, hi.at fun o q => k it (by simp) o q, hne⟩
  item := by
    intro X hP hw hK hc i pins s σ H E I hf st hg
    subst hP hw hK
    obtain ⟨⟨old, he⟩, hit, hne, hai, hae⟩ := st
    obtain ⟨xs, x, hq, hx⟩ := hg
    obtain ⟨its, rv, p, hz⟩ := I.tuple hq
    obtain ⟨u, hu, ru⟩ := rv.get hx
    have p : s.heap.IsTuple a its.toArray := p
    have hel := Heap.lt_size he
    have hil : it < s.heap.objs.size := by obtain ⟨_, q, _⟩ := hit; exact Heap.lt_size q
    have hlt : i < its.toArray.size := by
      have := (List.getElem?_eq_some_iff.mp hu).1
      simpa using this
    refine wpAny_pyNext_enum_itemD (Draws.tuple (A := X.A.in1) (I.ok.hd hc) it a hai its.toArray) he ⟨hit, p⟩ hlt hne (by simp [hne, Ne.symm hae]) fun v h' tk pv ho hst hT hsz hk => ?_
    have ev : v = u := by
      have q : its.toArray[i]? = some v := pv
      rw [List.getElem?_toArray, hu] at q
      exact (Option.some.inj q).symm
    subst ev
    refine ⟨_, rfl, wpAny_letOwnedTupleGo_enum (s := { s with heap := h', toks := tk + 1 }) ho fun h'' he' sb => ?_⟩
    have hT2 : h''.get? s.heap.objs.size = some { cls := .type "tuple", data := .seq #[.int i tk, v] } := (sb.2 _ (Nat.ne_of_gt hel)).trans hT
    have nw : ObjOk X.prog X.w (upd H s.heap.objs.size (.tup [.int (i : Nat), x])) h'' s.heap.objs.size (.tup [.int (i : Nat), x]) :=
      ⟨by show 2 ≤ sizeLine; decide, [.int i tk, v], .cons ⟨_, rfl⟩ (.cons ru .nil), ⟨_, hT2, rfl, _, rfl⟩⟩
    have I1 : Inv X pins σ (upd H s.heap.objs.size (.tup [.int (i : Nat), x])) { s with heap := h'', toks := tk + 1 } :=
      I.turnedNew (ch := [e, it]) (fun b ob hb q => (sb.2 b (fun z => hb (by simp [z]))).trans (hk b ob (fun z => hb (by simp [z])) (fun z => hb (by simp [z])) q)) hf (Nat.le_refl _) nw
    refine ⟨.ref s.heap.objs.size, _, I1, rfl, ⟨_, x, rfl, I.hok.fresh (Nat.le_refl _), rfl, fun ys hy => by rw [I.tuple_inj hy hq]; exact hx⟩, ⟨⟨v, ?_⟩, hst.1.at fun o q => (sb.2 it (Ne.symm hne)).trans q, hne, hai, hae⟩, fun b hb => ?_⟩
    · have e1 : ((i + 1 : Nat) : Int) = (i : Int) + 1 := by omega
      rw [e1]; exact he'
    · have hb' : b < s.heap.objs.size := by
        have e' : b = e ∨ b = it := by simpa using hb
        rcases e' with z | z
        · subst z; exact hel
        · subst z; exact hil
      rw [upd_ne (Nat.ne_of_lt hb')]
      exact (hf b hb).1
  done := by
    intro X hP hw hK hc i pins s σ H E I hf st hg
    subst hP hw hK
    obtain ⟨⟨old, he⟩, hit, hne, hai, hae⟩ := st
    obtain ⟨xs, hq, hx⟩ := hg
    obtain ⟨its, rv, p, hz⟩ := I.tuple hq
    have p : s.heap.IsTuple a its.toArray := p
    obtain ⟨f0, f1, f2, f3, f4, f5⟩ := hf it (by simp)
    have hl := rv.length
    exact enumT_end (I.ok.hd hc) he hit p (by simp; omega) fun h' eb => ⟨rfl, I.turned (t' := s.toks) (fun b o hb q => eb b o hb q) f0 f1 f3 f4 f5⟩
  self := fun A i s Q E st h => let ⟨⟨_, he⟩, _⟩ := st; wpAny_pyIter_enum he h
end Rf
end
section
namespace Rf
open PySem L2 PyProof.Rows
def iEn (K : Frg) (ta : TA) : TI := fun σ H R => ta σ H fun vs H1 => ∃ a xs, vs = [.ref a] ∧ SqT K H1 a xs ∧ R (ItEn K a) H1
theorem pi_en {X : Cx} {e : Expr} {ta : TA} {p pos tpos : Pos} {elts : List Expr} {kk : Nat} (hg : Gl X "enumerate") (hm : X.mg "enumerate" = none) (ha : PA X [e] ta) (hs : starEach [e] X.env = [(false, eval e X.env)]) :
    PI X (.Tuple elts kk tpos) (.Call (.Name "enumerate" p) [e] [] pos) (iEn X.K ta) := by
  refine ⟨fun pins s σ H R I h => ?_⟩
  refine Call_ (ld_blt I hg hm boot_enumerate (callWith_type1 (thn (ha.run pos pins s σ H _ I h) fun us s1 ⟨vs, H1, I1, r1, q1⟩ => ?_) hs rfl))
  obtain ⟨a, xs, ex, hq, q⟩ := q1
  subst ex
  obtain ⟨u, rfl, ru⟩ := vals1 r1
  cases ru
  obtain ⟨its, rv, p', hz⟩ := I1.tuple hq
  have p' : s1.heap.IsTuple a its.toArray := p'
  have alt : a < s1.heap.objs.size := by obtain ⟨_, q, _⟩ := id p'; exact Heap.lt_size q
  refine call_enumT p' fun h' he hit hsz hk => wpAny_pyIter_enum he ?_
  have I2 : Inv X pins σ H1 { s1 with heap := h' } := I1.kept (t' := s1.toks) hk
  refine ⟨s1.heap.objs.size + 1, [s1.heap.objs.size + 1, s1.heap.objs.size], _, _, H1, rfl, I2, turn_enT a (s1.heap.objs.size + 1) s1.heap.objs.size, ⟨⟨.none, he⟩, hit, Nat.succ_ne_self _, Nat.ne_of_lt alt, Nat.ne_of_lt (Nat.lt_succ_of_lt alt)⟩, fun b hb => ?_, q⟩
  have hle : s1.heap.objs.size ≤ b := by
    have e' : b = s1.heap.objs.size + 1 ∨ b = s1.heap.objs.size := by simpa using hb
    rcases e' with z | z
    · rw [z]; exact Nat.le_succ _
    · rw [z]; exact Nat.le_refl _
  exact I1.fpOk hle (I1.hok.fresh hle)
section
variable {K : Frg} {H : Hp} {μ : Mu} {Ω : Sto}
theorem it_enT {d : D} {a : Addr} {xs : List D} (r : Rep K (Fz H μ Ω) μ Ω.length d (.ref a)) (hl : ∀ H' μ' Ω', Rep K (Fz H' μ' Ω') μ' Ω'.length d (.ref a) → ∃ vs, Reps K (Fz H' μ' Ω') μ' Ω'.length xs vs ∧ SqT K H' a vs) :
    ItRep K (ItEn K a) H μ Ω (xs.zipIdx.map fun p => .tup [.int p.2, p.1]) where
  stop := fun i H' μ' Ω' ex hi => by
    obtain ⟨vs, rs, sq⟩ := hl _ _ _ (Rep.tr ex.tr _ _ r)
    exact ⟨vs, sq, by rw [rs.length]; simpa using hi⟩
  go := fun i H' μ' Ω' ex hi => by
    obtain ⟨vs, rs, sq⟩ := hl _ _ _ (Rep.tr ex.tr _ _ r)
    have hi : i < xs.length := by simpa using hi
    obtain ⟨v, e1, _⟩ := rs.get (List.getElem?_eq_getElem hi)
    exact ⟨vs, v, sq, e1⟩
  yld := fun i H' μ' Ω' v H'' d' ex hd ⟨T, x, h1, h2, h3, h4⟩ => by
    subst h1 h3
    obtain ⟨vs, rs, sq⟩ := hl _ _ _ (Rep.tr ex.tr _ _ r)
    have e4 := h4 vs sq
    rw [List.getElem?_map, List.getElem?_zipIdx] at hd
    cases e5 : xs[i]? with
    | none => rw [e5] at hd; cases hd
    | some y =>
      rw [e5] at hd
      obtain ⟨u, e6, ru⟩ := rs.get e5
      rw [e4] at e6
      cases e6
      have hd : D.tup [.int ((0 + i : Nat) : Int), y] = d' := Option.some.inj hd
      rw [Nat.zero_add] at hd
      subst hd
      exact new_yld ex.wf h2 (by simp only [Rep]) ru
end
section
variable {X : Cx} {W : WX} {ft : FT} {pos p : Pos} {l r : Expr} {a b : E}
theorem one_ok {t : TE} {σ : L2.St} {H : Hp} {Q : List V → Hp → Prop} (h : t σ H fun v H1 => Q [v] H1) : tCons t tNil σ H Q := h
theorem s_enum {tes : List Expr} {kk : Nat} {tpos : Pos} (hg : Gl X "enumerate") (hm : X.mg "enumerate" = none) (hp : plainE l = true) (ha : PE X l (TEv X.K W ft a)) : PI X (.Tuple tes kk tpos) (.Call (.Name "enumerate" p) [l] [] pos) (TIv X.K W ft (.enum a)) := by
  have h1 := pi_enum (p := p) (pos := pos) (tpos := tpos) (elts := tes) (kk := kk) hg hm (pa_cons ha pa_nil (star_cons hp)) (star_cons hp)
  have h2 := pi_en (p := p) (pos := pos) (tpos := tpos) (elts := tes) (kk := kk) hg hm (pa_cons ha pa_nil (star_cons hp)) (star_cons hp)
  refine ((h1.or h2).imp fun σ H R h => ?_)
  rcases src_case (f := fun d => (seqD d).map enD) h with h | ⟨x, xs, e, k⟩
  · exact .inl (one_ok (h _))
  cases e1 : seqD x with
  | none => rw [e1] at e; cases e
  | some zs =>
    rw [e1] at e
    have e : zs.zipIdx.map (fun p => D.tup [.int p.2, p.1]) = xs := Option.some.inj e
    subst e
    have li : (∀ v H' μ' Ω', Rep X.K (Fz H' μ' Ω') μ' Ω'.length x v → ∃ b vs, v = .ref b ∧ Reps X.K (Fz H' μ' Ω') μ' Ω'.length zs vs ∧ SqL X.K H' b vs) ∨ (∀ v H' μ' Ω', Rep X.K (Fz H' μ' Ω') μ' Ω'.length x v → ∃ b vs, v = .ref b ∧ Reps X.K (Fz H' μ' Ω') μ' Ω'.length zs vs ∧ SqT X.K H' b vs) := by
      cases x with
      | lst ys => cases e1; exact .inl fun v H' μ' Ω' rr => by obtain ⟨p, vs, rfl, _⟩ := view0 rr; obtain ⟨vs, h1, h2⟩ := lst_sq rr; exact ⟨p, vs, rfl, h1, h2⟩
      | scr ys => cases e1; exact .inl fun v H' μ' Ω' rr => by obtain ⟨p, rfl, _⟩ := view0 rr; obtain ⟨vs, h1, h2⟩ := scr_sq rr; exact ⟨p, vs, rfl, h1, h2⟩
      | tup ys => cases e1; exact .inr fun v H' μ' Ω' rr => by obtain ⟨p, vs, rfl, _⟩ := view0 rr; obtain ⟨vs, h1, h2⟩ := tup_sq rr; exact ⟨p, vs, rfl, h1, h2⟩
      | e0 => cases e1; exact .inr fun v H' μ' Ω' rr => by obtain ⟨p, rfl, _⟩ := view0 rr; obtain ⟨vs, h1, h2⟩ := e0_sq rr; exact ⟨p, vs, rfl, h1, h2⟩
      | _ => cases e1
    rcases li with li | li
    · refine .inl (one_ok (k _ fun v H1 μ1 Ω1 w r1 q => ?_))
      obtain ⟨b, vs, rfl, _, sq⟩ := li _ _ _ _ r1
      exact ⟨b, vs, rfl, sq, q _ (it_enum r1 fun H' μ' Ω' rr => by obtain ⟨b', vs, e, h1, h2⟩ := li _ _ _ _ rr; cases e; exact ⟨vs, h1, h2⟩)⟩
    · refine .inr (one_ok (k _ fun v H1 μ1 Ω1 w r1 q => ?_))
      obtain ⟨b, vs, rfl, _, sq⟩ := li _ _ _ _ r1
      exact ⟨b, vs, rfl, sq, q _ (it_enT r1 fun H' μ' Ω' rr => by obtain ⟨b', vs, e, h1, h2⟩ := li _ _ _ _ rr; cases e; exact ⟨vs, h1, h2⟩)⟩
end
end Rf
end
section
namespace Rf
open PySem L2 PyProof.Rows
/-! ### a list that is filled from an iterator -/
structure Fills (X : Cx) (pins : List (Addr × Obj)) (σ : L2.St) (A1 : Around) (q it : Addr) (n : Nat) (P : Nat → List V → Hp → Shared → Prop) (R : List V → Hp → Prop) : Prop where
  item : ∀ i acc H s, i < n → P i acc H s → wpAny (model X.prog X.w) A1 (pyNext (.ref it)) (fun r s' => ∃ u v H', r = some u ∧ Inv X pins σ H' s' ∧ RelV v u ∧ H' q = some (.lst acc) ∧ acc.length < sizeLine ∧
    ∀ s2, Inv X pins σ (upd H' q (.lst (acc ++ [v]))) s2 → (∀ b o, b ≠ q → s'.heap.get? b = some o → s2.heap.get? b = some o) → P (i + 1) (acc ++ [v]) (upd H' q (.lst (acc ++ [v]))) s2) X.xe s
  done : ∀ acc H s, P n acc H s → wpAny (model X.prog X.w) A1 (pyNext (.ref it)) (fun r s' => r = none ∧ ∃ H', Inv X pins σ H' s' ∧ R acc H') X.xe s
theorem Fills.loop {X : Cx} {pins : List (Addr × Obj)} {σ : L2.St} {A1 : Around} {q it : Addr} {n : Nat} {P : Nat → List V → Hp → Shared → Prop} {R : List V → Hp → Prop} (F : Fills X pins σ A1.in1 q it n P R) {Rs : Result → Shared → Prop}
    (fin : ∀ acc H s, Inv X pins σ H s → R acc H → Rs (.ok (.ret .none)) s) (err : ∀ e s, X.xe e s → Rs (.error e) s) :
    ∀ (m i : Nat) (acc : List V) (H : Hp) (s : Shared), i + m = n → P i acc H s → codeAny (model X.prog X.w) A1 (.builtin "list.extend.loop" ⟨[.ref q, .ref it, .none], []⟩) Rs s := by
  intro m
  induction m with
  | zero =>
    intro i acc H s e p
    have e : i = n := by omega
    subst e
    refine codeAny_builtin PySem.F.entry_extend_loop ?_
    rw [Around.under_plainId PySem.F.plain_extend_loop _]
    show wpAny _ A1.in1 (pyNext (.ref it) >>= _) _ _ s
    refine wpAny_bind (wpAny_mono (F.done acc H s p) (fun r s' ⟨er, H', I', hR⟩ => ?_) fun e s' he => err e s' he)
    subst er
    exact wpAny_pure (fin acc H' s' I' hR)
  | succ m ih =>
    intro i acc H s e p
    refine codeAny_builtin PySem.F.entry_extend_loop ?_
    rw [Around.under_plainId PySem.F.plain_extend_loop _]
    show wpAny _ A1.in1 (pyNext (.ref it) >>= _) _ _ s
    refine wpAny_bind (wpAny_mono (F.item i acc H s (by omega) p) (fun r s' ⟨u, v, H', er, I', rv, hq, hl, k⟩ => ?_) fun e s' he => err e s' he)
    subst er
    show wpAny _ A1.in1 (updateSeq q (·.push u) >>= _) _ _ _
    obtain ⟨z, its, kk, r2, hl2, eo⟩ := I'.lstM hq
    refine wpAny_bind (wpAny_updateSeq eo rfl (wpAny_pure ⟨plainId_quiet PySem.F.plain_extend_loop _, ?_⟩) (by rw [List.size_toArray]; omega) (by show (its.toArray.push u).size ≤ sizeLine + 1; rw [Array.size_push, List.size_toArray]; omega))
    exact ih (i + 1) (acc ++ [v]) _ _ (by omega) (k _ (I'.lset (its' := its ++ [u]) (t' := s'.toks) hq eo (by simp) (r2.append (.cons rv .nil)) (by rw [List.length_append, List.length_singleton]; omega)) (fun b ob hb hu => (Heap.get?_update_other s'.heap _ (Ne.symm hb)).trans hu))
/-! ### list(zip(a, b)) -/
theorem zip_nolen : typeLookup (.type "zip") "__len__" = pure none := am_miss_of_fast (by decide +kernel)
theorem zip_nohint : typeLookup (.type "zip") "__length_hint__" = pure none := am_miss_of_fast (by decide +kernel)
/-- where a zip of the lists at a and b stands; q: the list that its pairs go to -/
def ZSt (q z TI TO i1 i2 a b : Addr) (i : Nat) (h : Heap) : Prop := IsPair h TI (.ref i1) (.ref i2) ∧ h.IsListIter i1 a i ∧ h.IsListIter i2 b i ∧ (∃ o, h.get? TO = some o) ∧
  ((IsZip h z TI TO .none ∧ ∃ x y, IsPair h TO x y) ∨ ∃ T f oT, IsZipHeld h z TI TO T f ∧ h.get? T = some oT ∧ T ≠ z ∧ T ≠ i1 ∧ T ≠ i2 ∧ T ≠ q)
theorem ZSt.keep {q z TI TO i1 i2 a b : Addr} {i : Nat} {h h' : Heap} (st : ZSt q z TI TO i1 i2 a b i h) (hq : ∀ c, c ∈ [z, TI, TO, i1, i2] → c ≠ q) (k : ∀ c o, c ≠ q → h.get? c = some o → h'.get? c = some o) : ZSt q z TI TO i1 i2 a b i h' := by
  obtain ⟨s1, s2, s3, ⟨so, s0⟩, s4⟩ := st
  refine ⟨k _ _ (hq TI (by simp)) s1, s2.at fun o e => k _ o (hq i1 (by simp)) e, s3.at fun o e => k _ o (hq i2 (by simp)) e, ⟨so, k _ _ (hq TO (by simp)) s0⟩, ?_⟩
  rcases s4 with ⟨s4, x, y, s5⟩ | ⟨T, f, oT, s4, s5, r1, r2, r3, r4⟩
  · exact .inl ⟨k _ _ (hq z (by simp)) s4, x, y, k _ _ (hq TO (by simp)) s5⟩
  · exact .inr ⟨T, f, oT, k _ _ (hq z (by simp)) s4, k _ _ r4 s5, r1, r2, r3, r4⟩
/-- what is said of the list and the pairs while it is filled -/
structure ZipG (K : Frg) (q a b : Addr) (xs ys : List V) (G : Nat → List V → Hp → Prop) : Prop where
  sa : ∀ i acc H, G i acc H → SqL K H a xs
  sb : ∀ i acc H, G i acc H → SqL K H b ys
  at_ : ∀ i acc H, G i acc H → H q = some (.lst acc) ∧ acc.length = i
  step : ∀ i acc H T x y, G i acc H → xs[i]? = some x → ys[i]? = some y → H T = none → T ≠ q → G (i + 1) (acc ++ [.ref T]) (upd (upd H T (.tup [x, y])) q (.lst (acc ++ [.ref T])))
section
variable {X : Cx} {pins : List (Addr × Obj)} {σ : L2.St}
theorem fills_zip {A1 : Around} {q z TI TO i1 i2 a b : Addr} {xs ys : List V} {G : Nat → List V → Hp → Prop} (hh : A1.handled = none) (g : ZipG X.K q a b xs ys G) (D : ZipApart z TI TO i1 i2 a b) (hz : min xs.length ys.length ≤ sizeLine) :
    Fills X pins σ A1 q z (min xs.length ys.length) (fun i acc H s => Inv X pins σ H s ∧ ZSt q z TI TO i1 i2 a b i s.heap ∧ G i acc H ∧ ∀ c ∈ [z, TI, TO, i1, i2], FpOk X pins H c) (fun acc H => G (min xs.length ys.length) acc H) where
  item := by
    rintro i acc H s hi ⟨I, ⟨s1, s2, s3, ⟨so, s0⟩, s4⟩, hG, hf⟩
    obtain ⟨hq, hl⟩ := g.at_ _ _ _ hG
    have hix : i < xs.length := by omega
    have hiy : i < ys.length := by omega
    obtain ⟨its, rv, p, _⟩ := I.list (g.sa _ _ _ hG)
    obtain ⟨its2, rv2, p2, _⟩ := I.list (g.sb _ _ _ hG)
    obtain ⟨u, hu, ru⟩ := rv.get (List.getElem?_eq_getElem hix)
    obtain ⟨u2, hu2, ru2⟩ := rv2.get (List.getElem?_eq_getElem hiy)
    have nq : ∀ c, c ∈ [z, TI, TO, i1, i2] → c ≠ q := fun c hc e => by
      have := (hf c hc).1
      rw [e, hq] at this
      cases this
    have qlt : q < s.heap.objs.size := by
      obtain ⟨_, _, _, _, _, eo⟩ := I.lstM hq
      exact Heap.lt_size eo
    have go : ∀ h' : Heap, IsPair h' s.heap.objs.size u u2 → (∀ c o, c ∉ [z, TI, TO, i1, i2] → s.heap.get? c = some o → h'.get? c = some o) → ZSt q z TI TO i1 i2 a b (i + 1) h' →
        ∃ w v H', some (Value.ref s.heap.objs.size) = some w ∧ Inv X pins σ H' { s with heap := h' } ∧ RelV v w ∧ H' q = some (.lst acc) ∧ acc.length < sizeLine ∧ ∀ t, Inv X pins σ (upd H' q (.lst (acc ++ [v]))) t → (∀ c o, c ≠ q → h'.get? c = some o → t.heap.get? c = some o) →
          (Inv X pins σ (upd H' q (.lst (acc ++ [v]))) t ∧ ZSt q z TI TO i1 i2 a b (i + 1) t.heap ∧ G (i + 1) (acc ++ [v]) (upd H' q (.lst (acc ++ [v]))) ∧ ∀ c ∈ [z, TI, TO, i1, i2], FpOk X pins (upd H' q (.lst (acc ++ [v]))) c) := by
      intro h' hT hk hst
      have fr : H s.heap.objs.size = none := I.hok.fresh (Nat.le_refl _)
      have nw : ObjOk X.prog X.w (upd H s.heap.objs.size (.tup [xs[i], ys[i]])) h' s.heap.objs.size (.tup [xs[i], ys[i]]) := ⟨by show 2 ≤ sizeLine; decide, [u, u2], .cons ru (.cons ru2 .nil), ⟨_, hT, rfl, _, rfl⟩⟩
      have I1 : Inv X pins σ (upd H s.heap.objs.size (.tup [xs[i], ys[i]])) { s with heap := h' } := I.turnedNew (t' := s.toks) (ch := [z, TI, TO, i1, i2]) hk hf (Nat.le_refl _) nw
      refine ⟨_, .ref s.heap.objs.size, _, rfl, I1, rfl, by rw [upd_ne (Nat.ne_of_lt qlt)]; exact hq, by omega, fun t It kt => ⟨It, hst.keep nq kt, g.step i acc H _ _ _ hG (List.getElem?_eq_getElem hix) (List.getElem?_eq_getElem hiy) fr (Nat.ne_of_gt qlt), fun c hc => ?_⟩⟩
      obtain ⟨f0, f1⟩ := hf c hc
      refine ⟨?_, f1⟩
      have cl : c < s.heap.objs.size := by
        have e' : c = z ∨ c = TI ∨ c = TO ∨ c = i1 ∨ c = i2 := by simpa using hc
        rcases e' with e | e | e | e | e
        · rw [e]
          rcases s4 with ⟨s4, _⟩ | ⟨T, f, oT, s4, _⟩
          · exact Heap.lt_size s4
          · exact Heap.lt_size s4
        · rw [e]; exact Heap.lt_size s1
        · rw [e]; exact Heap.lt_size s0
        · rw [e]; obtain ⟨_, e1, _⟩ := s2; exact Heap.lt_size e1
        · rw [e]; obtain ⟨_, e1, _⟩ := s3; exact Heap.lt_size e1
      rw [upd_ne (nq c hc), upd_ne (Nat.ne_of_lt cl)]
      exact f0
    have ex : its.toArray[i]? = some u := by rw [List.getElem?_toArray]; exact hu
    have ey : its2.toArray[i]? = some u2 := by rw [List.getElem?_toArray]; exact hu2
    have lt : ∀ {c o}, s.heap.get? c = some o → s.heap.objs.size ≠ c := fun e => Nat.ne_of_gt (Heap.lt_size e)
    have n1 : s.heap.objs.size ≠ i1 := let ⟨_, e, _⟩ := s2; lt e
    have n2 : s.heap.objs.size ≠ i2 := let ⟨_, e, _⟩ := s3; lt e
    have nQ : s.heap.objs.size ≠ q := Nat.ne_of_gt qlt
    rcases s4 with ⟨s4, x, y, s5⟩ | ⟨T, f, oT, s4, s5, r1, r2, r3, r4⟩
    · refine wpAny_pyNext_zip_item D s4 s1 s5 s2 s3 p.isList p2.isList ex ey fun h' a1 a2 a3 a4 a5 a6 hk => ?_
      have hk' : ∀ c o, c ∉ [z, TI, TO, i1, i2] → s.heap.get? c = some o → h'.get? c = some o := fun c o hc e => hk c o (fun x => hc (by simp [x])) (fun x => hc (by simp [x])) (fun x => hc (by simp [x])) (fun x => hc (by simp [x])) e
      exact go h' a5 hk' ⟨hk _ _ D.TIz D.TITO D.TIi1 D.TIi2 s1, a3, a4, ⟨_, a2⟩, .inr ⟨s.heap.objs.size, false, _, a1, a5, lt s4, n1, n2, nQ⟩⟩
    · refine wpAny_pyNext_zip_item_held D s4 s5 s1 s2 s3 p.isList p2.isList ex ey fun h' a1 a3 a4 a5 a6 hk => ?_
      have hk' : ∀ c o, c ∉ [z, TI, TO, i1, i2] → s.heap.get? c = some o → h'.get? c = some o := fun c o hc e => hk c o (fun x => hc (by simp [x])) (fun x => hc (by simp [x])) (fun x => hc (by simp [x])) e
      exact go h' a5 hk' ⟨hk _ _ D.TIz D.TIi1 D.TIi2 s1, a3, a4, ⟨so, hk _ _ D.TOz D.TOi1 D.TOi2 s0⟩, .inr ⟨T, true, oT, a1, hk _ _ r1 r2 r3 s5, r1, r2, r3, r4⟩⟩
  done := by
    rintro acc H s ⟨I, ⟨s1, s2, s3, ⟨so, s0⟩, s4⟩, hG, hf⟩
    obtain ⟨its, rv, p, _⟩ := I.list (g.sa _ _ _ hG)
    obtain ⟨its2, rv2, p2, _⟩ := I.list (g.sb _ _ _ hG)
    have l1 := rv.length
    have l2 := rv2.length
    have he : its.toArray[min xs.length ys.length]? = none ∨ its2.toArray[min xs.length ys.length]? = none := by
      rcases Nat.le_total xs.length ys.length with h | h
      · exact .inl (by simp; omega)
      · exact .inr (by simp; omega)
    have go : ∀ h' : Heap, (∀ c o, c ∉ [z, TI, TO, i1, i2] → s.heap.get? c = some o → h'.get? c = some o) → (none : Option Value) = none ∧ ∃ H', Inv X pins σ H' { s with heap := h' } ∧ G (min xs.length ys.length) acc H' := fun h' hk =>
      ⟨rfl, H, I.turnedL (t' := s.toks) (ch := [z, TI, TO, i1, i2]) hk hf, hG⟩
    rcases s4 with ⟨s4, x, y, s5⟩ | ⟨T, f, oT, s4, s5, r1, r2, r3, r4⟩
    · exact wpAny_pyNext_zip_end hh D s4 s1 s5 s2 s3 p.isList p2.isList he fun h' hk => go h' fun c o hc e => hk c o (fun x => hc (by simp [x])) (fun x => hc (by simp [x])) (fun x => hc (by simp [x])) (fun x => hc (by simp [x])) e
    · exact wpAny_pyNext_zip_end_held hh D s4 s5 s1 s2 s3 p.isList p2.isList he fun h' hk => go h' fun c o hc e => hk c o (fun x => hc (by simp [x])) (fun x => hc (by simp [x])) (fun x => hc (by simp [x])) e
end
end Rf
end
section
namespace Rf
open PySem L2 PyProof.Rows
section
variable {X : Cx} {pins : List (Addr × Obj)} {σ : L2.St} {H : Hp} {s : Shared}
/-- list(x), x no list and no tuple: the type, the iterator, the hint are told; the list is filled behind them -/
theorem list_fill {Q : VK} {a : Addr} (I : Inv X pins σ H s)
    (k : ∀ (c₀ : Nat) (s₁ : Shared), Inv X pins σ (upd H s.heap.objs.size (.lst [])) s₁ → (∀ b o, s.heap.get? b = some o → s₁.heap.get? b = some o) → s₁.heap.get? s.heap.objs.size = some { cls := .type "list", data := .seq #[] c₀ } →
      wpAny (model X.prog X.w) X.A.in1.in1 (Builtin.List.listExtendWith (.ref s.heap.objs.size) (.ref a) .none)
        (fun fin s' => match fin with | .done f => wants (fun r s₂ => r = .none ∧ EP X pins σ Q (.ref s.heap.objs.size) s₂) X.xe (.ok f) s' | .again c' => c'.quiet = true ∧ codeAny (model X.prog X.w) X.A.in1 c' (wants (fun r s₂ => r = .none ∧ EP X pins σ Q (.ref s.heap.objs.size) s₂) X.xe) s')
        (fun e s' => wants (fun r s₂ => r = .none ∧ EP X pins σ Q (.ref s.heap.objs.size) s₂) X.xe (.error e) s') s₁) :
    wpAny (model X.prog X.w) X.A (call (.type "list") [.ref a]) (EP X pins σ Q) X.xe s := by
  refine callType_codes (Q₁ := fun ob s₁ => ob = .ref s.heap.objs.size ∧ s₁ = { s with heap := s.heap.push { cls := .type "list", data := .seq #[] } }) PySem.F.called_list (PySem.F.typeCall_list_1 _) PySem.F.entry_list_init
    (code_list_new _ ⟨rfl, rfl⟩) fun ob s₁ h₁ => ?_
  obtain ⟨rfl, rfl⟩ := h₁
  have hS : (s.heap.push { cls := .type "list", data := .seq #[] }).get? s.heap.objs.size = some { cls := .type "list", data := .seq #[] } := Heap.get?_push_size _ rfl
  refine ⟨⟨_, hS, rfl⟩, PySem.F.args_list_init_2 _ _, ?_⟩
  have I1 : Inv X pins σ (upd H s.heap.objs.size (.lst [])) { s with heap := s.heap.push { cls := .type "list", data := .seq #[] } } := I.lnew (its := []) (t' := s.toks) .nil (Nat.zero_le _)
  show wpAny _ _ (do let old ← Builtin.List.listItems (.ref s.heap.objs.size); Builtin.List.listUpdate (.ref s.heap.objs.size) (fun _ => #[]); letGo old.toList.reverse; Builtin.List.listExtendWith (.ref s.heap.objs.size) (.ref a) .none) _ _ _
  refine wpAny_bind ?_
  unfold Builtin.List.listItems
  refine wpAny_bind (wpAny_seqItems hS rfl (wpAny_pure ?_))
  show wpAny _ _ (updateSeq s.heap.objs.size (fun _ => #[]) >>= fun _ => letGo (#[] : Array Value).toList.reverse >>= fun _ => Builtin.List.listExtendWith (.ref s.heap.objs.size) (.ref a) .none) _ _ _
  refine wpAny_bind (wpAny_updateSeq hS rfl ?_)
  have I2 := I1.lset (f := fun _ => #[]) (its := []) (its' := []) (ys := []) (t' := s.toks) upd_same hS rfl .nil (Nat.zero_le _)
  rw [upd_upd] at I2
  refine wpAny_bind (wpAny_letGo ?_)
  refine k _ _ I2 (fun b o e => ?_) (Heap.get?_update_self (Obj.mapSeq (fun _ => (#[] : Array Value))) hS rfl)
  exact (Heap.get?_update_other _ _ (Ne.symm (Nat.ne_of_lt (Heap.lt_size e)))).trans (Heap.get?_push_of_some _ e)
/-- room is made, or not; then the loop -/
theorem fill_room {A1 : Around} {q it : Addr} {n : Nat} {P : Nat → List V → Hp → Shared → Prop} {R : List V → Hp → Prop} {Rs : Result → Shared → Prop} {c : Prop} [Decidable c] {H' : Hp} {s' : Shared} (F : Fills X pins σ A1.in1 q it n P R)
    (fin : ∀ acc H s, Inv X pins σ H s → R acc H → Rs (.ok (.ret .none)) s) (err : ∀ e s, X.xe e s → Rs (.error e) s) (I : Inv X pins σ H' s') (hq : H' q = some (.lst []))
    (p : ∀ s₂, Inv X pins σ H' s₂ → (∀ b o, b ≠ q → s'.heap.get? b = some o → s₂.heap.get? b = some o) → P 0 [] H' s₂) :
    wpAny (model X.prog X.w) A1.in1 (if c then (rule "list.extend.makes-room" >>= fun _ => Builtin.List.listTouch (.ref q) >>= fun _ => again (.builtin "list.extend.loop" ⟨[.ref q, .ref it, .none], []⟩)) else again (.builtin "list.extend.loop" ⟨[.ref q, .ref it, .none], []⟩))
      (fun fin s' => match fin with | .done f => Rs (.ok f) s' | .again c' => c'.quiet = true ∧ codeAny (model X.prog X.w) A1 c' Rs s') (fun e s' => Rs (.error e) s') s' := by
  have I' := I
  obtain ⟨z, its, k, r3, hl3, e3⟩ := I.lstM hq
  cases r3
  have key : ∀ s₂, Inv X pins σ H' s₂ → (∀ b o, b ≠ q → s'.heap.get? b = some o → s₂.heap.get? b = some o) → wpAny (model X.prog X.w) A1.in1 (again (.builtin "list.extend.loop" ⟨[.ref q, .ref it, .none], []⟩))
      (fun fin s' => match fin with | .done f => Rs (.ok f) s' | .again c' => c'.quiet = true ∧ codeAny (model X.prog X.w) A1 c' Rs s') (fun e s' => Rs (.error e) s') s₂ := fun s₂ I₂ k₂ =>
    wpAny_pure ⟨plainId_quiet PySem.F.plain_extend_loop _, F.loop fin err n 0 [] H' s₂ (by omega) (p s₂ I₂ k₂)⟩
  refine wpAny_ite_split (fun _ => ?_) (fun _ => key s' I fun _ _ _ e => e)
  · refine wpAny_bind (wpAny_rule ?_)
    refine wpAny_bind ?_
    show wpAny _ _ (updateSeq q (·.push .none) >>= fun _ => updateSeq q (·.pop)) _ _ _
    refine wpAny_bind (wpAny_updateSeq e3 rfl ?_)
    have I2 := I.lset (f := (·.push Value.none)) (its' := [Value.none]) (ys := [.non]) (t' := s'.toks) hq e3 (by simp) (.cons rfl .nil) (by rw [List.length_singleton, sizeLine_eq]; decide)
    obtain ⟨z4, its4, k4, r4, hl4, e4⟩ := I2.lstM upd_same
    obtain ⟨u4, rfl, ru4⟩ := r4.one
    refine wpAny_updateSeq e4 rfl ?_ (by show 1 ≤ sizeLine; rw [sizeLine_eq]; decide) (by show 0 ≤ sizeLine + 1; exact Nat.zero_le _)
    have I3 := I2.lset (f := (·.pop)) (its := [u4]) (its' := []) (ys := []) (t' := s'.toks) upd_same e4 (by rfl) .nil (Nat.zero_le _)
    rw [upd_upd] at I3
    have hH : upd H' q (.lst []) = H' := by
      funext b
      by_cases hb : b = q
      · rw [hb, upd_same, hq]
      · rw [upd_ne hb]
    rw [hH] at I3
    exact key _ I3 fun b o hb e => (Heap.get?_update_other _ _ (Ne.symm hb)).trans ((Heap.get?_update_other _ _ (Ne.symm hb)).trans e)
end
end Rf
end
section
namespace Rf
open PySem L2 PyProof.Rows
section
variable {X : Cx} {l r : Expr} {ta : TA} {p p2 pos pos2 : Pos}
def tLz (K : Frg) (ta : TA) : TE := fun σ H Q => ta σ H fun vs H1 => ∃ a b xs ys, vs = [.ref a, .ref b] ∧ SqL K H1 a xs ∧ SqL K H1 b ys ∧ min xs.length ys.length ≤ sizeLine ∧
  ∀ q, H1 q = none → ∃ G, ZipG K q a b xs ys G ∧ G 0 [] (upd H1 q (.lst [])) ∧ ∀ acc H2, G (min xs.length ys.length) acc H2 → Q (.ref q) H2
theorem pe_lz (hc : X.calm = true) (hg : Gl X "list") (hm : X.mg "list" = none) (hg2 : Gl X "zip") (hm2 : X.mg "zip" = none) (ha : PA X [l, r] ta) (hp : plainE l = true) (hp2 : plainE r = true) :
    PE X (.Call (.Name "list" p) [.Call (.Name "zip" p2) [l, r] [] pos2] [] pos) (tLz X.K ta) := by
  refine ⟨fun pins s σ H Q I h => ?_⟩
  refine wpAny_Call_Name_kw (ld_blt (u := .type "list") I hg hm (by decide +kernel) ?_ (by decide +kernel) (by decide +kernel))
  refine callWith_type1 ?_ rfl rfl
  show wpAny _ _ (spliced ((false, eval (.Call (.Name "zip" p2) [l, r] [] pos2) X.env) :: backTo pos (starEach [] X.env))) _ _ s
  refine Calls.spliced_cons ?_
  refine wpAny_Call_Name_kw (ld_blt (u := .type "zip") I hg2 hm2 (by decide +kernel) ?_ (by decide +kernel) (by decide +kernel))
  refine callWith_type1 (thn (ha.run pos2 pins s σ H _ I h) fun us s1 ⟨vs, H1, I1, r1, q1⟩ => ?_) (star_cons hp) (back_any (by simp [hp2]))
  obtain ⟨a, b, xs, ys, rfl, hqx, hqy, hz, k⟩ := q1
  obtain ⟨u, v, rfl, ru, rv⟩ := vals2 r1
  cases ru
  cases rv
  obtain ⟨its, rv1, p1, _⟩ := I1.list hqx
  obtain ⟨its2, rv2, p22, _⟩ := I1.list hqy
  refine call_zip_2 p1.isList p22.isList fun h' hz' hTI hTO h1 h2 hsz hk => ?_
  have I2 : Inv X pins σ H1 { s1 with heap := h' } := I1.kept (t' := s1.toks) hk
  refine Calls.spliced_nil ?_
  have fr5 : ∀ c, c ∈ [s1.heap.objs.size + 4, s1.heap.objs.size + 2, s1.heap.objs.size + 3, s1.heap.objs.size, s1.heap.objs.size + 1] → s1.heap.objs.size ≤ c ∧ c < s1.heap.objs.size + 5 := fun c hcm => by
    have e' : c = s1.heap.objs.size + 4 ∨ c = s1.heap.objs.size + 2 ∨ c = s1.heap.objs.size + 3 ∨ c = s1.heap.objs.size ∨ c = s1.heap.objs.size + 1 := by simpa using hcm
    rcases e' with z | z | z | z | z
    · rw [z]; exact ⟨Nat.le_add_right _ _, Nat.lt_succ_self _⟩
    · rw [z]; exact ⟨Nat.le_add_right _ _, Nat.add_lt_add_left (by decide) _⟩
    · rw [z]; exact ⟨Nat.le_add_right _ _, Nat.add_lt_add_left (by decide) _⟩
    · rw [z]; exact ⟨Nat.le_refl _, Nat.lt_add_of_pos_right (by decide)⟩
    · rw [z]; exact ⟨Nat.le_add_right _ _, Nat.add_lt_add_left (by decide) _⟩
  refine list_fill I2 fun c₀ s₂ I₂ k₂ hS => ?_
  have k₂ : ∀ b o, h'.get? b = some o → s₂.heap.get? b = some o := k₂
  have q0 : H1 h'.objs.size = none := I2.hok.fresh (Nat.le_refl _)
  obtain ⟨G, g, g0, gQ⟩ := k _ q0
  have qz : h'.objs.size = s1.heap.objs.size + 5 := hsz
  have D := PySem.W.ktu_apart s1.heap.objs.size a b p1.lt p22.lt
  have F := fills_zip (X := X) (pins := pins) (σ := σ) (A1 := X.A.in1.in1) (I.ok.hd hc) g D hz
  have nq : ∀ c, c ∈ [s1.heap.objs.size + 4, s1.heap.objs.size + 2, s1.heap.objs.size + 3, s1.heap.objs.size, s1.heap.objs.size + 1] → c ≠ h'.objs.size := fun c hcm e => by
    have := (fr5 c hcm).2
    rw [e, qz] at this
    exact Nat.lt_irrefl _ this
  have hzs : IsZip s₂.heap (s1.heap.objs.size + 4) (s1.heap.objs.size + 2) (s1.heap.objs.size + 3) .none := k₂ _ _ hz'
  have ty : s₂.TypeIs (.ref (s1.heap.objs.size + 4)) "zip" := ⟨_, hzs, rfl⟩
  unfold Builtin.List.listExtendWith
  refine wpAny_bind (wpAny_typeOf ty ?_)
  have e1 : Builtin.List.listSameRef (.ref h'.objs.size) (.ref (s1.heap.objs.size + 4)) = false := by
    have := nq (s1.heap.objs.size + 4) (by simp)
    simp [Builtin.List.listSameRef, Ne.symm this]
  have e2 : (Value.type "zip" == Value.type "list") = false := by decide
  have e3 : (Value.type "zip" == Value.type "tuple") = false := by decide
  simp only [e1, e2, e3, Bool.or_false, Bool.false_eq_true, if_false]
  refine wpAny_bind (wpAny_pyIter_zip hzs ?_)
  refine wpAny_bind (wpAny_holding ?_)
  unfold Builtin.List.listLengthHint
  refine wpAny_bind (wpAny_specialOf ty zip_nolen ?_)
  show wpAny _ X.A.in1.in1 (specialOf (Value.ref (s1.heap.objs.size + 4)) (Str.ofString "__length_hint__") >>= _) _ _ _
  refine wpAny_bind (wpAny_specialOf ty zip_nohint ?_)
  refine wpAny_pure ?_
  refine fill_room F (fun acc H' s' I' hR => ⟨rfl, .ref h'.objs.size, H', I', rfl, gQ acc H' hR⟩) (fun e s' he => he) I₂ upd_same fun s₃ I₃ k₃ => ?_
  have k23 : ∀ b o, b ≠ h'.objs.size → h'.get? b = some o → s₃.heap.get? b = some o := fun b o hb e => k₃ b o hb (k₂ b o e)
  refine ⟨I₃, ⟨k23 _ _ (nq _ (by simp)) hTI, h1.at fun o e => k23 _ o (nq _ (by simp)) e, h2.at fun o e => k23 _ o (nq _ (by simp)) e, ⟨_, k23 _ _ (nq _ (by simp)) hTO⟩, .inl ⟨k23 _ _ (nq _ (by simp)) hz', _, _, k23 _ _ (nq _ (by simp)) hTO⟩⟩, g0, fun c hcm => ?_⟩
  have hle := (fr5 c hcm).1
  exact I1.fpOk hle (by rw [upd_ne (nq c hcm)]; exact I1.hok.fresh hle)
end
section
variable {X : Cx} {W : WX} {ft : FT} {pos p p2 pos2 : Pos} {l r : Expr} {a b : E}
theorem lstD_view {K : Frg} {H : Hp} {μ : Mu} {Ω : Sto} {d : D} {v : V} {xs : List D} (h : View K H μ Ω d v) (e : lstD d = some xs) : ∃ p vs, v = .ref p ∧ Reps K (Fz H μ Ω) μ Ω.length xs vs ∧ vs.length ≤ sizeLine ∧ SqL K H p vs := by
  cases d with
  | lst ys => cases e; obtain ⟨q, vs, e1, rr, z, c⟩ := h; exact ⟨q, vs, e1, rr, z, .inl (.inl c)⟩
  | scr ns =>
    cases e
    obtain ⟨q, e2, e3, e4⟩ := h
    have go : ∀ ms : List Int, Reps K (Fz H μ Ω) μ Ω.length (ms.map .int) (ms.map V.int) := fun ms => by
      induction ms with
      | nil => exact Reps.nil
      | cons m ms ih => exact Reps.cons (by simp only [Rep]) ih
    exact ⟨q, ns.map V.int, e2, go ns, by rw [List.length_map, ← big_eq]; exact Nat.le_trans e3 (by decide), e4⟩
  | _ => cases e
theorem Reps.getV {K : Frg} {G : Hp} {μ : Mu} {n : Nat} : ∀ {ds : List D} {vs : List V} {i : Nat} {v : V}, Reps K G μ n ds vs → vs[i]? = some v → ∃ d, ds[i]? = some d ∧ Rep K G μ n d v
  | [], vs, i, v, h, e => by simp only [Reps] at h; rw [h] at e; simp at e
  | d :: ds, vs, 0, v, h, e => by
    simp only [Reps] at h
    obtain ⟨u, ws, rfl, r, _⟩ := h
    simp at e
    subst e
    exact ⟨d, rfl, r⟩
  | d :: ds, vs, i + 1, v, h, e => by
    simp only [Reps] at h
    obtain ⟨u, ws, rfl, _, r⟩ := h
    exact Reps.getV (i := i) r (by simpa using e)
/-- the pairs that are made, the list they go to -/
def zG (K : Frg) (H1 : Hp) (μ : Mu) (Ω : Sto) (q : Addr) (ds : List D) (i : Nat) (acc : List V) (H : Hp) : Prop :=
  ∃ H0, H = upd H0 q (.lst acc) ∧ Ext K (upd H1 q (.lst acc)) (μ.hide q) Ω H (μ.hide q) Ω ∧ Reps K (Fz H (μ.hide q) Ω) (μ.hide q) Ω.length (ds.take i) acc ∧ acc.length = i
theorem hide_tr {K : Frg} {G : Hp} {μ : Mu} {n : Nat} {q : Addr} : Tr K G μ n G (μ.hide q) n := Tr.of_le (fun _ _ h => h) (fun _ _ => rfl) (Nat.le_refl _)
theorem zip_G {K : Frg} {H1 : Hp} {μ : Mu} {Ω : Sto} {q a b : Addr} {xs ys : List D} {vs us : List V} (w : Wf K H1 μ Ω) (hq : H1 q = none) (rx : Reps K (Fz H1 μ Ω) μ Ω.length xs vs) (ry : Reps K (Fz H1 μ Ω) μ Ω.length ys us)
    (sa : ∀ H' , (∀ c o, H1 c = some o → H' c = some o) → SqL K H' a vs) (sb : ∀ H', (∀ c o, H1 c = some o → H' c = some o) → SqL K H' b us) (hz : min vs.length us.length ≤ sizeLine) :
    ∃ G, ZipG K q a b vs us G ∧ G 0 [] (upd H1 q (.lst [])) ∧ ∀ acc H2, G (min vs.length us.length) acc H2 → Ext K H1 μ Ω H2 μ Ω ∧ Rep K (Fz H2 μ Ω) μ Ω.length (.lst (List.zipWith (fun x y => .tup [x, y]) xs ys)) (.ref q) := by
  refine ⟨fun i acc H => (∀ c o, H1 c = some o → H c = some o) ∧ zG K H1 μ Ω q (List.zipWith (fun x y => .tup [x, y]) xs ys) i acc H, ⟨fun i acc H h => sa H h.1, fun i acc H h => sb H h.1, fun i acc H ⟨_, H0, e, _, _, hl⟩ => ⟨by rw [e, upd_same], hl⟩, ?_⟩, ?_, ?_⟩
  · rintro i acc H T x y ⟨hk, H0, e, ex, rr, hl⟩ hx hy hT hTq
    have hw : Wf K H (μ.hide q) Ω := ex.wf
    obtain ⟨dx, ex1, rdx⟩ := Reps.getV rx hx
    obtain ⟨dy, ey1, rdy⟩ := Reps.getV ry hy
    have tr1 : Tr K (Fz H1 μ Ω) μ Ω.length (Fz H (μ.hide q) Ω) (μ.hide q) Ω.length := ⟨fun c o h => ex.fz c o (by rw [Fz.hide w hq]; exact h), fun _ _ => rfl, Nat.le_refl _⟩
    obtain ⟨n1, n2, n3⟩ := new_yld hw hT (Rep.tr tr1 _ _ rdx) (Rep.tr tr1 _ _ rdy)
    have hq' : H q = some (.lst acc) := by rw [e, upd_same]
    have ex2 := (ex.trans n2)
    have eh : H = upd H q (.lst acc) := by
      funext c
      by_cases hc : c = q
      · rw [hc, upd_same, hq']
      · rw [upd_ne hc]
    refine ⟨fun c o h => ?_, upd H T (.tup [x, y]), rfl, ?_, ?_, by simp [hl]⟩
    · rw [upd_ne (ne_of_none h hq), upd_ne (ne_of_none (hk c o h) hT)]
      exact hk c o h
    · exact Ext.rehide ex2 hid_mem trivial
    · have fz : Fz (upd (upd H T (.tup [x, y])) q (.lst (acc ++ [.ref T]))) (μ.hide q) Ω = Fz (upd H T (.tup [x, y])) (μ.hide q) Ω := Fz.hidden hid_mem
      rw [fz]
      have ed : (List.zipWith (fun x y => D.tup [x, y]) xs ys)[i]? = some (.tup [dx, dy]) := by rw [List.getElem?_zipWith, ex1, ey1]
      rw [List.take_add_one, ed]
      exact Reps.append (Reps.tr n2.tr _ _ rr) (Reps.one n3)
  · refine ⟨fun c o h => by rw [upd_ne (ne_of_none h hq)]; exact h, H1, rfl, Ext.refl (w.hide hq trivial), by rw [List.take_zero]; exact Reps.nil, rfl⟩
  · rintro acc H2 ⟨hk, H0, e, ex, rr, hl⟩
    have hq' : H2 q = some (.lst acc) := by rw [e, upd_same]
    have eh : upd H2 q (.lst acc) = H2 := upd_id hq'
    have e1 := Ext.unhide (o' := .lst acc) w hq ex
    have e2 := Fz.unhide (o' := .lst acc) w hq ex
    have t1 := Tr.unhide (o' := .lst acc) w hq ex
    rw [eh] at e1 e2 t1
    have ms : (μ.hide q).show = μ := rfl
    rw [ms] at e1 e2 t1
    refine ⟨e1, ?_⟩
    simp only [Rep]
    have le : (List.zipWith (fun x y => D.tup [x, y]) xs ys).length = min vs.length us.length := by rw [List.length_zipWith, rx.length, ry.length]
    rw [List.take_of_length_le (by rw [le]; exact Nat.le_refl _)] at rr
    exact ⟨q, acc, rfl, Reps.tr t1 _ _ rr, by rw [hl]; exact hz, e2⟩
theorem sql_le {K : Frg} {G G' : Hp} {p : Addr} {vs : List V} (h : SqL K G p vs) (le : ∀ c o, G c = some o → G' c = some o) : SqL K G' p vs := by
  rcases h with (h | ⟨o, h⟩) | h
  · exact .inl (.inl (le _ _ h))
  · exact .inl (.inr ⟨o, le _ _ h⟩)
  · exact .inr h
theorem s_lzip (hc : X.calm = true) (hg : Gl X "list") (hm : X.mg "list" = none) (hg2 : Gl X "zip") (hm2 : X.mg "zip" = none) (hp : plainE l = true) (hq : plainE r = true) (ha : PE X l (TEv X.K W ft a)) (hb : PE X r (TEv X.K W ft b)) :
    PE X (.Call (.Name "list" p) [.Call (.Name "zip" p2) [l, r] [] pos2] [] pos) (TEv X.K W ft (.lzip a b)) := by
  refine (pe_lz hc hg hm hg2 hm2 (pa_cons ha (pa_cons hb pa_nil (star_cons hq)) (star_cons hp)) hp hq).imp fun σ H Q ⟨μ, Ω, ρ, at_, p⟩ => ?_
  obtain ⟨μ0, Ω0, ρ0, a0, p0⟩ := one at_ p
  refine ⟨μ0, Ω0, ρ0, a0, p0.mono ?_⟩
  rintro v H1 ⟨μ1, Ω1, x, a1, r1, p1⟩
  obtain ⟨μ0, Ω0, ρ0, a0, p0⟩ := one a1 p1
  refine ⟨μ1, Ω1, ρ, a1, (Post.bind (rel := rD X.K) p1).mono ?_⟩
  rintro u H2 ⟨μ2, Ω2, y, _, ex2, r2, p2⟩
  have vx := view ex2.wf (Rep.tr ex2.tr _ _ r1)
  have vy := view ex2.wf r2
  have p2 : Post X.K (rD X.K) W σ H2 μ2 Ω2 ((opt (zipL (lk Ω2 x) (lk Ω2 y)) Ω2).bind fun l Ω => if l.length ≤ big then .ok (.lst l) Ω else .bad) Q := p2
  cases e1 : lstD (lk Ω2 x) with
  | none => unfold zipL at p2; rw [e1] at p2; exact False.elim p2
  | some xs =>
    cases e2 : lstD (lk Ω2 y) with
    | none => unfold zipL at p2; rw [e1, e2] at p2; exact False.elim p2
    | some ys =>
      unfold zipL at p2
      rw [e1, e2] at p2
      obtain ⟨b1, vs, rfl, rx, zx, sx⟩ := lstD_view vx e1
      obtain ⟨b2, us, rfl, ry, zy, sy⟩ := lstD_view vy e2
      have hz : min vs.length us.length ≤ sizeLine := Nat.le_trans (Nat.min_le_left ..) zx
      refine ⟨b1, b2, vs, us, rfl, sx, sy, hz, fun q hq => ?_⟩
      obtain ⟨G, g1, g2, g3⟩ := zip_G ex2.wf hq rx ry (fun H' le => sql_le sx le) (fun H' le => sql_le sy le) hz
      refine ⟨G, g1, g2, fun acc H3 hG => ?_⟩
      obtain ⟨e3, rp⟩ := g3 acc H3 hG
      have p2 : Post X.K (rD X.K) W σ H2 μ2 Ω2 (if (List.zipWith (fun x y => D.tup [x, y]) xs ys).length ≤ big then .ok (.lst (List.zipWith (fun x y => D.tup [x, y]) xs ys)) Ω2 else .bad) Q := p2
      by_cases hb : (List.zipWith (fun x y => D.tup [x, y]) xs ys).length ≤ big
      · rw [if_pos hb] at p2
        exact p2 _ _ _ e3 rp
      · rw [if_neg hb] at p2
        exact False.elim p2
end
end Rf
end
section
namespace Rf
open PySem L2 PyProof.Rows
/-! ### iter(dict), as a value -/
abbrev kiObj (d : Addr) (es : Array DictEntry) (ep : Nat) : Obj := { cls := .type "dict_keyiterator", data := .fields #[.ref d, .int 0 0, .int es.size 0, .int ep 0] }
def KiO (d it : Addr) (o : Obj) : HO := .ext fun h => ∃ es ep, o.data = .dict es ep ∧ h.get? it = some (kiObj d es ep)
theorem kiO_ok {P : Program} {w : World} {H : Hp} {h : Heap} {d it : Addr} {o : Obj} {es : Array DictEntry} {ep : Nat} (hd : o.data = .dict es ep) (e : h.get? it = some (kiObj d es ep)) : ObjOk P w H h it (KiO d it o) :=
  ⟨⟨es, ep, hd, e⟩, ⟨_, e⟩, fun _ _ q k => let ⟨a, b, c, d⟩ := q; ⟨a, b, c, k _ d⟩⟩
def Newest (H : Hp) (it : Addr) : Prop := H it = none ∧ ∀ q o, H q = some o → q < it
theorem newest {X : Cx} {pins : List (Addr × Obj)} {σ : L2.St} {H : Hp} {s : Shared} (I : Inv X pins σ H s) : Newest H s.heap.objs.size :=
  ⟨I.hok.fresh (Nat.le_refl _), fun q o h => by obtain ⟨u, e⟩ := objOk_get (I.hok q o h); exact Heap.lt_size e⟩
def rIterD : List V → Hp → VK → Prop := fun xs H Q => ∃ d o kvs, xs = [.ref d] ∧ H d = some (.frz o (.dK kvs)) ∧ ∀ it, Newest H it → Q (.ref it) (upd H it (KiO d it o))
section
variable {X : Cx}
theorem call_iterD : CallR X (.builtin "iter") rIterD := by
  intro pins s σ H xs us Q I r h
  obtain ⟨d, o, kvs, rfl, hd, k⟩ := h
  obtain ⟨u, rfl, ru⟩ := vals1 r
  cases ru
  obtain ⟨hs, hgd, hx, es, ep, vs, hdt, hsz, kv, hm⟩ := I.frzK hd
  refine Calls.call_function_entry (by decide +kernel) (by decide +kernel) PySem.W.kdk_entry_iter (PySem.W.kdk_args_iter _) ?_
  unfold Builtin.«iter»
  refine wpAny_bind (m := someArgs "iter" 1 2 _) (wpAny_of_eq (a := [Value.ref d]) (by first | rfl | kernel_rfl!) ?_)
  show wpAny _ _ (pyIter (.ref d) >>= _) _ _ _
  refine wpAny_bind (iter_keys hs hgd hx hdt (wpAny_pure ⟨_, rfl, ?_⟩))
  exact ⟨.ref s.heap.objs.size, _, I.laid (t' := s.toks) (fun b u e => Heap.get?_push_of_some _ e) (Nat.le_refl _) (kiO_ok hdt (Heap.get?_push_size _ rfl)), rfl, k _ (newest I)⟩
end
/-! ### a def that gives an iterator over a field -/
def spIter (C : Addr) (g : Str) : Sp := fun vs H Q _ => ∃ a dx fs d o kvs, vs = [.ref a] ∧ H a = some (.ins C dx fs) ∧ fs.lookup g = some (.ref d) ∧ H d = some (.frz o (.dK kvs)) ∧ ∀ it, Newest H it → Q (.ref it) (upd H it (KiO d it o))
section
variable {P : Program} {w : World} {K : Frg} {mg : Str → Option Value} {base : Heap} {x qual nm : Str} {params : Arguments} {body : List Stmt} {scope : Scope} {dvs : List V} {kws : List (Str × V)} {f C : Addr} {fd : FuncData} {g : Str} {p1 p2 p3 p4 p5 : Pos}
theorem iter_def {k : Nat} (F : FunD K nm qual params [.Return (some (.Call (.Name "iter" p1) [.Attribute (.Name x p2) g p3] [] p4)) p5] scope dvs kws f fd) (S : FnScope [x] [x] scope) (gl : scope.names.lookup ("iter" : Str) = some .globalImplicit) (hm : mg "iter" = none)
    (hx : (x == ("__debug__" : Str)) = false) (hx2 : (x == ("__classdict__" : Str)) = false) (cl : Cls K C) (na : NoAttr K C g) : FnOk P w K mg base (L2.CX P w) (k + 1) f fd [x] (spIter C g) := by
  have hv : Vis scope x := by
    rcases S.par x (by simp) with q | q
    · exact .inl q
    · exact .inr (.inl q)
  refine F.ok S (fun vs H Q E h => ?_) fun cdv A outer s H vs Q E hr h => ?_
  · obtain ⟨a, dx, fs, d, o, kvs, rfl, _⟩ := h
    rfl
  · let X := cxOf (L2.CX P w) P w K mg base [x] qual scope f cdv A outer s H E
    have e1 : PE X (.Name x p2) (tVar 0) := pe_var (i := 0) rfl hv hx hx2
    have e2 : PE X (.Attribute (.Name x p2) g p3) (tFld X.K (tVar 0) g) := pe_fld e1 (base_ok rfl)
    have e3 : PE X (.Call (.Name "iter" p1) [.Attribute (.Name x p2) g p3] [] p4) (tCB rIterD (tCons (tFld X.K (tVar 0) g) tNil)) := pe_callB call_iterD gl hm (by decide +kernel) (pa_cons e2 pa_nil)
    refine ⟨_, pss_one (ps_ret e3), ?_⟩
    obtain ⟨a, dx, fs, d, o, kvs, rfl, h1, h2, h3, h4⟩ := h
    exact ⟨.ref a, rfl, a, C, dx, fs, _, rfl, h1, cl, na, h2, d, o, kvs, rfl, h3, h4⟩
end
end Rf
end
section
namespace Rf
open PySem L2 PyProof.Rows
/-! ### a def that gives the length of a field -/
def spLen (C : Addr) (g : Str) : Sp := fun vs H Q _ => ∃ a dx fs d o kvs, vs = [.ref a] ∧ H a = some (.ins C dx fs) ∧ fs.lookup g = some (.ref d) ∧ H d = some (.frz o (.dK kvs)) ∧ Q (.int kvs.length) H
theorem call_lenF {X : Cx} : CallR X (.builtin "len") (fun xs H Q => ∃ d o kvs, xs = [.ref d] ∧ H d = some (.frz o (.dK kvs)) ∧ Q (.int kvs.length) H) := by
  intro pins s σ H xs us Q I r h
  obtain ⟨d, o, kvs, rfl, hd, k⟩ := h
  obtain ⟨u, rfl, ru⟩ := vals1 r
  cases ru
  exact d_len I (.inr ⟨o, hd⟩) fun t s' I' => ⟨.int kvs.length, H, I', ⟨t, rfl⟩, k⟩
section
variable {P : Program} {w : World} {K : Frg} {mg : Str → Option Value} {base : Heap} {x qual nm : Str} {params : Arguments} {body : List Stmt} {scope : Scope} {dvs : List V} {kws : List (Str × V)} {f C : Addr} {fd : FuncData} {g : Str} {p1 p2 p3 p4 p5 : Pos}
theorem len_def {k : Nat} (F : FunD K nm qual params [.Return (some (.Call (.Name "len" p1) [.Attribute (.Name x p2) g p3] [] p4)) p5] scope dvs kws f fd) (S : FnScope [x] [x] scope) (gl : scope.names.lookup ("len" : Str) = some .globalImplicit) (hm : mg "len" = none)
    (hx : (x == ("__debug__" : Str)) = false) (hx2 : (x == ("__classdict__" : Str)) = false) (cl : Cls K C) (na : NoAttr K C g) : FnOk P w K mg base (L2.CX P w) (k + 1) f fd [x] (spLen C g) := by
  have hv : Vis scope x := by
    rcases S.par x (by simp) with q | q
    · exact .inl q
    · exact .inr (.inl q)
  refine F.ok S (fun vs H Q E h => ?_) fun cdv A outer s H vs Q E hr h => ?_
  · obtain ⟨a, dx, fs, d, o, kvs, rfl, _⟩ := h
    rfl
  · let X := cxOf (L2.CX P w) P w K mg base [x] qual scope f cdv A outer s H E
    have e1 : PE X (.Name x p2) (tVar 0) := pe_var (i := 0) rfl hv hx hx2
    have e2 : PE X (.Attribute (.Name x p2) g p3) (tFld X.K (tVar 0) g) := pe_fld e1 (base_ok rfl)
    have e3 : PE X (.Call (.Name "len" p1) [.Attribute (.Name x p2) g p3] [] p4) (tCB _ (tCons (tFld X.K (tVar 0) g) tNil)) := pe_callB call_lenF gl hm (by decide +kernel) (pa_cons e2 pa_nil)
    refine ⟨_, pss_one (ps_ret e3), ?_⟩
    obtain ⟨a, dx, fs, d, o, kvs, rfl, h1, h2, h3, h4⟩ := h
    exact ⟨.ref a, rfl, a, C, dx, fs, _, rfl, h1, cl, na, h2, d, o, kvs, rfl, h3, h4⟩
end
/-! ### list(o), o an instance that goes through a field of its own -/
structure InsIt (X : Cx) (C : Addr) (g : Str) (n : Nat) (fi fl : Addr) (fdI fdL : FuncData) (psI psL : List Str) : Prop where
  it : PySem.W.findIn X.K (.ref C) "__iter__" = some (some (.ref fi))
  itF : PySem.W.isFn X.K (.ref fi) = true
  ln : PySem.W.findIn X.K (.ref C) "__len__" = some (some (.ref fl))
  lnF : PySem.W.isFn X.K (.ref fl) = true
  FI : FnOk X.prog X.w X.K X.mg X.base (L2.CX X.prog X.w) n fi fdI psI (spIter C g)
  bI : Binds X.K fdI psI []
  FL : FnOk X.prog X.w X.K X.mg X.base (L2.CX X.prog X.w) n fl fdL psL (spLen C g)
  bL : Binds X.K fdL psL []
  hr : Room (n + 3) X.A
section
variable {X : Cx} {pins : List (Addr × Obj)} {σ : L2.St} {H : Hp} {s : Shared} {C : Addr} {g : Str} {n : Nat} {fi fl : Addr} {fdI fdL : FuncData} {psI psL : List Str}
theorem cx_false {P : Program} {w : World} {st : List PySem.Env} {e : Value} {s s' : Shared} {H : Hp} (h : L2.CX P w st H s (fun _ _ _ => False) e s') : False := by
  obtain ⟨a, B, H', cls, d, rfl, fl, hok, ub, na, os, ag, hE⟩ := h
  exact hE
/-- a special method of an own instance runs -/
theorem own_run {A1 : Around} {a f : Addr} {fd : FuncData} {ps : List Str} {sp : Sp} {Q : VK} {QQ : Value → Shared → Prop} {E : Value → Shared → Prop} (sb : Sub X n A1) (F : FnOk X.prog X.w X.K X.mg X.base (L2.CX X.prog X.w) n f fd ps sp) (b : Binds X.K fd ps []) (I : Inv X pins σ H s)
    (hsp : sp [.ref a] H Q fun _ _ _ => False) (k : ∀ u v H' s', Inv X pins σ H' s' → RelV v u → Q v H' → QQ u s') : wpAny (model X.prog X.w) A1 (call (.ref f) [.ref a]) QQ E s := by
  have e0 : Env0 X.prog X.w X.K X.mg X.base A1 X.stack s H := by
    have e := I.env0
    exact ⟨by rw [sb.fr]; exact e.frames, e.mod, e.bs, e.bsz, e.funs, e.frf, e.hok, e.bare⟩
  have hl := F.len _ _ _ _ hsp
  have r2 : Vals [V.ref a] [Value.ref a] := .cons rfl .nil
  refine wpAny_call (codeAny_mono (F.run A1 X.stack s H ⟨[.ref a], []⟩ [.ref a] [.ref a] Q _ sb.room e0 (by
    have := b s [.ref a] I.kIn (by simpa using hl)
    simpa using this) r2 hsp) fun r s' hq => ?_)
  cases r with
  | error e => exact False.elim (cx_false hq)
  | ok fl =>
    cases fl with
    | ret u =>
      obtain ⟨v, H', I', rv, q⟩ := I.after hq
      exact k u v H' s' I' rv q
    | next => exact False.elim hq
    | brk => exact False.elim hq
    | cont => exact False.elim hq
end
end Rf
end
section
namespace Rf
open PySem L2 PyProof.Rows
section
variable {X : Cx} {pins : List (Addr × Obj)} {σ : L2.St} {H : Hp} {s : Shared} {C : Addr} {g : Str} {n : Nat} {fi fl : Addr} {fdI fdL : FuncData} {psI psL : List Str}
theorem fills_keys {A1 : Around} {q it d : Addr} {o : Obj} {es : Array DictEntry} {ep : Nat} {kvs : List (Key × V)} {H0 : Hp} (hh : A1.handled = none) (hd : H0 d = some (.frz o (.dK kvs))) (hod : o.data = .dict es ep) (hz : kvs.length ≤ sizeLine) (hq : H0 q = none) :
    Fills X pins σ A1 q it kvs.length (fun i acc H s => Inv X pins σ H s ∧ s.heap.IsKeyIter it d i kvs.length ep ∧ FpOk X pins H it ∧ H = upd H0 q (.lst acc) ∧ acc = (kvs.take i).map fun kv => kV kv.1) (fun acc H => H = upd H0 q (.lst (kvs.map fun kv => kV kv.1))) where
  item := by
    rintro i acc H s hi ⟨I, st, hf, rfl, rfl⟩
    obtain ⟨f0, f1, f2, f3, f4, f5⟩ := hf
    have hdq : d ≠ q := ne_of_none hd hq
    have hd' : upd H0 q (.lst ((kvs.take i).map fun kv => kV kv.1)) d = some (.frz o (.dK kvs)) := by rw [upd_ne hdq]; exact hd
    obtain ⟨hs, hgd, hx, es', ep', vs, hdt, hsz, kv, hm⟩ := I.frzK hd'
    obtain ⟨rfl, rfl⟩ := dict_ep hod hdt
    obtain ⟨⟨k, v⟩, hkv⟩ : ∃ p, kvs[i]? = some p := ⟨kvs[i], List.getElem?_eq_getElem hi⟩
    obtain ⟨u, hu, ru⟩ := kv_get kv hkv
    have hl : kvs.length = vs.length := Paired.length kv
    rw [hl] at st
    refine wpAny_pyNext_dict_item st hm hu fun key h' hkey st' sb => ?_
    have I1 : Inv X pins σ _ { s with heap := h' } := I.turned (t' := s.toks) (fun b ob hb e => (sb.2 b hb).trans e) f0 f1 f3 f4 f5
    have itq : it ≠ q := fun z => by rw [z, upd_same] at f0; cases f0
    have ek : (kvs.take (i + 1)).map (fun kv => kV kv.1) = (kvs.take i).map (fun kv => kV kv.1) ++ [kV k] := by rw [List.take_add_one, hkv]; simp
    refine ⟨key, kV k, _, rfl, I1, relV_key (show keyIs k key = true from hkey), upd_same, by rw [List.length_map, List.length_take]; omega, fun t It kt => ?_⟩
    rw [← ek] at It ⊢
    refine ⟨It, ?_, ⟨?_, f1, f2, f3, f4, f5⟩, upd_upd, rfl⟩
    · rw [hl]
      obtain ⟨oi, e, cc, dd⟩ := st'
      exact ⟨oi, kt it oi itq e, cc, dd⟩
    · rw [upd_upd, upd_ne itq]
      rw [upd_ne itq] at f0
      exact f0
  done := by
    rintro acc H s ⟨I, st, hf, rfl, rfl⟩
    obtain ⟨f0, f1, f2, f3, f4, f5⟩ := hf
    have hdq : d ≠ q := ne_of_none hd hq
    have hd' : upd H0 q (.lst ((kvs.take kvs.length).map fun kv => kV kv.1)) d = some (.frz o (.dK kvs)) := by rw [upd_ne hdq]; exact hd
    obtain ⟨hs, hgd, hx, es', ep', vs, hdt, hsz, kv, hm⟩ := I.frzK hd'
    obtain ⟨rfl, rfl⟩ := dict_ep hod hdt
    refine next_key_end hh st hgd hdt hsz (Nat.le_refl _) fun h' eb => ⟨rfl, _, I.turned (t' := s.toks) (fun b ob hb e => eb b ob hb e) f0 f1 f3 f4 f5, ?_⟩
    rw [List.take_length]
/-- len(o) by the class's own def -/
theorem len_own {A1 : Around} {a dx d : Addr} {fs : List (Str × V)} {o : Obj} {kvs : List (Key × V)} {Q : Value → Shared → Prop} {E : Value → Shared → Prop} (sb : Sub X n A1.in1) (ln : PySem.W.findIn X.K (.ref C) "__len__" = some (some (.ref fl))) (lnF : PySem.W.isFn X.K (.ref fl) = true)
    (FL : FnOk X.prog X.w X.K X.mg X.base (L2.CX X.prog X.w) n fl fdL psL (spLen C g)) (bL : Binds X.K fdL psL []) (I : Inv X pins σ H s) (ha : H a = some (.ins C dx fs)) (hl : fs.lookup g = some (.ref d)) (hd : H d = some (.frz o (.dK kvs)))
    (k : ∀ t s', Inv X pins σ H s' → Q (.int kvs.length t) s') : wpAny (model X.prog X.w) A1 (call (.builtin "len") [.ref a]) Q E s := by
  have hz : kvs.length ≤ sizeLine := (dk_rd I.hok (.inr ⟨o, hd⟩)).1
  have hz63 : (kvs.length : Int) < 2 ^ 63 := by rw [sizeLine_eq] at hz; omega
  obtain ⟨mA, J, _⟩ := ins_get I.hok ha
  obtain ⟨od, J, _⟩ := J.look
  refine Calls.call_function_entry kind_len plain_len entry_len (args_len1 _) ?_
  unfold Builtin.«len»
  refine wpAny_bind (m := oneArg "len" _) (wpAny_pure ?_)
  refine wpAny_bind (m := callSpecial? (.ref a) (PySem.Str.ofString "__len__")) (PySem.W.special_fn (name := "__len__") (args := []) I.kIn J ln (beq_iff_eq.mp lnF) ?_)
  refine own_run sb FL bL I (Q := fun v H' => v = .int kvs.length ∧ H' = H) ⟨a, dx, fs, d, o, kvs, rfl, ha, hl, hd, rfl, rfl⟩ ?_
  rintro u v H2 s₂ I₂ rv ⟨rfl, rfl⟩
  obtain ⟨t, rfl⟩ := rv
  refine wpAny_bind (wpAny_holding (wpAny_pure ?_))
  refine wpAny_bind (wpAny_letGo ?_)
  show wpAny _ _ (if ((kvs.length : Nat) : Int) < 0 then _ else _) _ _ _
  rw [if_neg (by omega)]
  show wpAny _ _ (if ((kvs.length : Nat) : Int) ≥ 2 ^ 63 then _ else _) _ _ _
  rw [if_neg (by omega)]
  exact wpAny_bind (wpAny_mkInt (wpAny_pure ⟨_, rfl, k _ _ (I₂.tok _)⟩))
theorem hint_own {A1 : Around} {a dx d : Addr} {fs : List (Str × V)} {o : Obj} {kvs : List (Key × V)} {Q : Bool → Shared → Prop} {E : Value → Shared → Prop} (sb : Sub X n A1.in1) (ln : PySem.W.findIn X.K (.ref C) "__len__" = some (some (.ref fl))) (lnF : PySem.W.isFn X.K (.ref fl) = true)
    (FL : FnOk X.prog X.w X.K X.mg X.base (L2.CX X.prog X.w) n fl fdL psL (spLen C g)) (bL : Binds X.K fdL psL []) (I : Inv X pins σ H s) (ha : H a = some (.ins C dx fs)) (hl : fs.lookup g = some (.ref d)) (hd : H d = some (.frz o (.dK kvs)))
    (k : ∀ b s', Inv X pins σ H s' → Q b s') : wpAny (model X.prog X.w) A1 (Builtin.List.listLengthHint (.ref a)) Q E s := by
  have hz : kvs.length ≤ sizeLine := (dk_rd I.hok (.inr ⟨o, hd⟩)).1
  obtain ⟨mA, J, _⟩ := ins_get I.hok ha
  obtain ⟨od, J, _⟩ := J.look
  unfold Builtin.List.listLengthHint
  refine wpAny_bind (wpAny_bind (J.type.here ((PySem.W.looks_findIn I.kIn ln).here ?_)))
  refine PySem.W.KFB.if_not rfl ?_
  refine PySem.W.KFB.if_so rfl ?_
  refine wpAny_bind (wpAny_rule ?_)
  refine wpAny_bind (wpAny_attempt (len_own sb ln lnF FL bL I ha hl hd fun t s' I' => ?_))
  refine wpAny_bind (m := asInt? _) (wpAny_pure ?_)
  show wpAny _ _ (if Builtin.List.listTooLong ((kvs.length : Nat) : Int).toNat = true then _ else _) _ _ _
  refine PySem.W.KFB.if_not (by rw [Int.toNat_natCast]; exact notLongL hz) ?_
  exact wpAny_pure (k _ _ I')
def rInsL (C : Addr) (g : Str) : List V → Hp → VK → Prop := fun xs H Q => ∃ a dx fs d o kvs, xs = [.ref a] ∧ H a = some (.ins C dx fs) ∧ fs.lookup g = some (.ref d) ∧ H d = some (.frz o (.dK kvs)) ∧
  ∀ q, H q = none → kvs.length ≤ sizeLine → Q (.ref q) (upd H q (.lst (kvs.map fun kv => kV kv.1)))
theorem list_ins (hc : X.calm = true) (F : InsIt X C g n fi fl fdI fdL psI psL) : CallR X (.type "list") (rInsL C g) := by
  intro pins s σ H xs us Q I r h
  obtain ⟨a, dx, fs, d, o, kvs, rfl, ha, hl, hd, k⟩ := h
  obtain ⟨u, rfl, ru⟩ := vals1 r
  cases ru
  have q0 : H s.heap.objs.size = none := I.hok.fresh (Nat.le_refl _)
  refine list_fill I fun c₀ s₁ I₁ k₁ hS => ?_
  generalize hq : s.heap.objs.size = q at *
  have haq : a ≠ q := ne_of_none ha q0
  have hdq : d ≠ q := ne_of_none hd q0
  have ha1 : upd H q (.lst []) a = some (.ins C dx fs) := by rw [upd_ne haq]; exact ha
  have hd1 : upd H q (.lst []) d = some (.frz o (.dK kvs)) := by rw [upd_ne hdq]; exact hd
  have sb : Sub X n X.A.in1.in1 := Sub.mono (Sub.in1 (Sub.in1 (⟨F.hr, rfl⟩ : Sub X (n + 1 + 2) X.A))) (Nat.le_succ _)
  have sb2 : Sub X n X.A.in1.in1.in1 := Sub.in1 (Sub.in1 (Sub.in1 (⟨F.hr, rfl⟩ : Sub X (n + 3) X.A)))
  obtain ⟨mA, J, _⟩ := ins_get I₁.hok ha1
  obtain ⟨od, J, _⟩ := J.look
  obtain ⟨m0, hF⟩ := I₁.fr
  unfold Builtin.List.listExtendWith
  refine wpAny_bind (J.type.here ?_)
  have h1 : Builtin.List.listSameRef (.ref q) (.ref a) = false := by simp [Builtin.List.listSameRef, Ne.symm haq]
  have h2 : (Value.ref C == Value.type "list") = false := rfl
  have h3 : (Value.ref C == Value.type "tuple") = false := rfl
  simp only [h1, h2, h3, Bool.or_false, Bool.false_eq_true, if_false]
  refine wpAny_bind (PySem.W.owit_iter hF I₁.ok.mod.kin J F.it F.itF ?_)
  refine own_run sb F.FI F.bI I₁ (Q := fun v H' => ∃ it, v = .ref it ∧ Newest (upd H q (.lst [])) it ∧ H' = upd (upd H q (.lst [])) it (KiO d it o)) ⟨a, dx, fs, d, o, kvs, rfl, ha1, hl, hd1, fun it hn => ⟨it, rfl, hn, rfl⟩⟩ ?_
  rintro u v H2 s₂ I₂ rv ⟨it, rfl, ⟨hn, hnew⟩, rfl⟩
  cases rv
  have ki := (I₂.hok it _ upd_same).1
  obtain ⟨es, ep, hod, eit⟩ := ki
  have ty : s₂.TypeIs (.ref it) "dict_keyiterator" := ⟨_, eit, rfl⟩
  refine wpAny_specialOf ty PySem.F.slot_dict_keyiterator_next.lookup ?_
  show wpAny _ _ _ _ _ _
  have ait : a ≠ it := ne_of_none ha1 hn
  have dit : d ≠ it := ne_of_none hd1 hn
  have ha2 : upd (upd H q (.lst [])) it (KiO d it o) a = some (.ins C dx fs) := by rw [upd_ne ait]; exact ha1
  have hd2 : upd (upd H q (.lst [])) it (KiO d it o) d = some (.frz o (.dK kvs)) := by rw [upd_ne dit]; exact hd1
  have hz : kvs.length ≤ sizeLine := (dk_rd I₁.hok (.inr ⟨o, hd1⟩)).1
  have hz63 : (kvs.length : Int) < 2 ^ 63 := by rw [sizeLine_eq] at hz; omega
  refine wpAny_bind (wpAny_holding (hint_own sb2 F.ln F.lnF F.FL F.bL I₂ ha2 hl hd2 fun room s₃ I₃ => ?_))
  have eit3 : s₃.heap.get? it = some (kiObj d es ep) := by
    obtain ⟨es', ep', hod', e'⟩ := (I₃.hok it _ upd_same).1
    rw [hod] at hod'
    cases hod'
    exact e'
  have I₄ : Inv X pins σ (ItX.dropH (upd (upd H q (.lst [])) it (KiO d it o)) it) s₃ := ItX.inv_drop I₃ upd_same
  have yq : X.s_0.heap.objs.size ≤ it := by
    have h1 := hnew q _ upd_same
    have h2 := I.sz
    rw [hq] at h2
    exact Nat.le_of_lt (Nat.lt_of_le_of_lt h2 h1)
  have fp := ItX.inv_fp I₃ (a := it) upd_same yq
  rw [ItX.dropH_upd hn] at I₄ fp
  have FF := fills_keys (X := X) (pins := pins) (σ := σ) (A1 := X.A.in1.in1) (q := q) (it := it) (I.ok.hd hc) hd hod hz q0
  have hsz : es.size = kvs.length := by
    obtain ⟨_, _, _, es', ep', _, hdt, hsz, _⟩ := I₄.frzK hd1
    rw [hod] at hdt
    cases hdt
    exact hsz
  refine fill_room FF (fun acc H' s' I' hR => ⟨rfl, .ref q, H', I', rfl, by rw [hR]; exact k q q0 hz⟩) (fun e s' he => he) I₄ upd_same fun s₅ I₅ k₅ => ⟨I₅, ?_, fp, rfl, rfl⟩
  have itq : it ≠ q := fun z => by rw [z, upd_same] at hn; cases hn
  refine ⟨_, k₅ it _ itq eit3, rfl, ?_⟩
  rw [← hsz] <;> rfl
end
end Rf
end
section
namespace Rf
open PySem L2
section
variable {X : Cx} {W : WX} {ft : FT} {pos p : Pos} {l : Expr} {a : E} {c g : Str} {n : Nat} {fi fl : Addr} {fdI fdL : FuncData} {psI psL : List Str}
theorem instD_some {its : Str → Option Str} {d : D} {xs : List D} (e : instD its c d = some xs) : ∃ fs f kvs, d = .ins c fs ∧ its c = some f ∧ fs.lookup f = some (.dk kvs) ∧ xs = kvs.map fun kv => kD kv.1 := by
  cases d with
  | ins c' fs =>
    simp only [instD] at e
    by_cases h : c' = c
    · subst h
      rw [if_pos rfl] at e
      cases e1 : its c' with
      | none => rw [e1] at e; cases e
      | some f =>
        rw [e1] at e
        simp only at e
        cases e2 : fs.lookup f with
        | none => rw [e2] at e; cases e
        | some d =>
          rw [e2] at e
          cases d with
          | dk kvs => cases e; exact ⟨fs, f, kvs, rfl, rfl, e2, rfl⟩
          | _ => cases e
    · rw [if_neg h] at e; cases e
  | _ => cases e
theorem s_lins (hc : X.calm = true) (hi : ft.its c = some g) (F : InsIt X (He.ga X.K c) g n fi fl fdI fdL psI psL) (hg : Gl X "list") (hm : X.mg "list" = none) (ha : PE X l (TEv X.K W ft a)) (hp : plainE l = true) :
    PE X (.Call (.Name "list" p) [l] [] pos) (TEv X.K W ft (.lins a c)) := by
  refine (pe_callTy (list_ins hc F) hg hm (by decide +kernel) (pa_cons ha pa_nil (star_cons hp)) (by decide +kernel) (by decide +kernel) (star_cons hp) rfl).imp fun σ H Q ⟨μ, Ω, ρ, at_, p⟩ => ?_
  obtain ⟨μ0, Ω0, ρ0, a0, p0⟩ := one at_ p
  refine ⟨μ0, Ω0, ρ0, a0, p0.mono ?_⟩
  rintro v H1 ⟨μ1, Ω1, x, a1, r1, p1⟩
  have p1 : Post X.K (rD X.K) W σ H1 μ1 Ω1 ((opt (instD ft.its c x) Ω1).bind fun l Ω => .ok (.lst l) Ω) Q := p1
  cases e : instD ft.its c x with
  | none => rw [e] at p1; exact False.elim p1
  | some xs =>
    rw [e] at p1
    obtain ⟨fs, f, kvs, rfl, e1, e2, rfl⟩ := instD_some e
    rw [hi] at e1
    cases e1
    simp only [Rep] at r1
    obtain ⟨q, dx, ws, rfl, rr, hq⟩ := r1
    obtain ⟨u, e3, ru⟩ := lookup_rep rr e2
    simp only [Rep] at ru
    obtain ⟨b, wk, od, rfl, rk, hb⟩ := ru
    have p1 : Post X.K (rD X.K) W σ H1 μ1 Ω1 (.ok (.lst (kvs.map fun kv => kD kv.1)) Ω1) Q := p1
    refine ⟨q, dx, ws, b, od, wk, rfl, Fz.le hq, e3, Fz.le hb, fun t ht hz => ?_⟩
    have wn : Want X.K H1 μ1 Ω1 (.lst (kvs.map fun (kv : Key × D) => kD kv.1)) Q := fun v H' ex rp => p1 v H' μ1 ex rp
    exact wn.lst a1.wf (keys_back rk) (by rw [List.length_map]; exact hz) t ht
end
end Rf
end
section
namespace Rf
open PySem L2
/-! ### the checker -/
/-- where a text stands: the slots, the block's names, which of them are cells of its own -/
structure Sc where
  N : List Str
  sc : Scope
  fn : Str → Bool
/-- what a law's text may use -/
structure Tab where
  bts : List Str
  cons : List Str
  fns : List Str
  clss : List Str
  fls : List Str
  mths : List (Str × Str × Str)
  mks : List (Str × Str)
  dfl : Str → List D
  itc : List Str
def Sc.kd (c : Sc) (x : Str) : Option NameKind := c.sc.names.lookup x
def Sc.gl (c : Sc) (x : Str) : Bool := decide (c.kd x = some .globalImplicit)
def Sc.vis (c : Sc) (x : Str) : Bool := decide (c.kd x = some .local) || decide (c.kd x = some .cell) || decide (c.kd x = some .free)
def Sc.loc (c : Sc) (x : Str) : Bool := decide (c.kd x = some .local) || decide (c.kd x = some .cell)
def Sc.tgn (c : Sc) (i : Nat) (x : Str) : Bool := decide (c.N[i]? = some x) && c.loc x && (c.fn x || decide (c.kd x = some .local))
def Sc.blk (c : Sc) (scope : Scope) : Sc := ⟨c.N, relS scope c.sc, fun x => scope.names.lookup x == some .cell⟩
def Sc.own (c : Sc) (is : List Nat) : List (Str × Nat) := is.map fun i => (c.N.getD i Str.empty, i)
def nodbg (x : Str) : Bool := !(x == ("__debug__" : Str))
def subB (is js : List Nat) : Bool := is.all fun i => js.contains i
def noSet : Expr → Bool
  | .Set _ _ _ => false
  | _ => true
def chN (c : Sc) : List Nat → List Expr → Bool
  | [], [] => true
  | i :: is, .Name x _ :: es => c.tgn i x && chN c is es
  | _, _ => false
def chTg (c : Sc) : Tg → Expr → Bool
  | .nm i, .Name x _ => c.tgn i x
  | .tp is, .Tuple es _ _ => chN c is es
  | _, _ => false
def chTy (T : Tab) (c : Sc) (t : Ty) (x : Str) : Bool := decide (tyN t = x) && c.gl x && match t with
  | .own k => T.clss.contains k && nodbg k
  | t => T.bts.contains (tyN t)
def chTys (T : Tab) (c : Sc) : List Ty → List Expr → Bool
  | [], [] => true
  | t :: ts, .Name x _ :: es => chTy T c t x && chTys T c ts es
  | _, _ => false
def chIsi (T : Tab) (c : Sc) (ts : List Ty) : Expr → Bool
  | .Name n _ => (match ts with | [ty] => chTy T c ty n | _ => false)
  | .Tuple es _ _ => chTys T c ts es && decide (ts.length ≤ 1000)
  | _ => false
def okIx : Expr → Bool
  | .Slice _ _ _ _ => false
  | _ => true
def bi1 (T : Tab) (c : Sc) (f : Str) : Bool := c.gl f && T.bts.contains f
def dotB (o : Expr) (apos pos : Pos) (es : List Expr) : Bool := noSup o && es.all plainE && decide (es.length < 30) && (apos.endLine == pos.line)
def setArg : Expr → Option Expr
  | .Call f xs ks _ => match f, xs, ks with
    | .Name g _, [x], [] => if g = "set" then some x else none
    | _, _, _ => none
  | _ => none
theorem setArg_ok {e x : Expr} (h : setArg e = some x) : ∃ q p, e = .Call (.Name "set" q) [x] [] p := by
  unfold setArg at h
  split at h
  · split at h
    · rename_i g q y
      by_cases hg : g = "set"
      · rw [if_pos hg] at h
        cases h
        exact ⟨q, _, by rw [hg]⟩
      · rw [if_neg hg] at h; cases h
    · cases h
  · cases h
def zipArg : Expr → Option (Expr × Expr)
  | .Call f xs ks _ => match f, xs, ks with
    | .Name g _, [x, y], [] => if g = "zip" then some (x, y) else none
    | _, _, _ => none
  | _ => none
theorem zipArg_ok {e x y : Expr} (h : zipArg e = some (x, y)) : ∃ q p, e = .Call (.Name "zip" q) [x, y] [] p := by
  unfold zipArg at h
  split at h
  · split at h
    · rename_i g q a b
      by_cases hg : g = "zip"
      · rw [if_pos hg] at h
        cases h
        exact ⟨q, _, by rw [hg]⟩
      · rw [if_neg hg] at h; cases h
    · cases h
  · cases h
mutual
def chE (T : Tab) (c : Sc) (t : Bool) : E → Expr → Bool
  | .nope, _ => !t
  | .var i, .Name x _ => decide (c.N[i]? = some x) && c.vis x && nodbg x && !(x == ("__classdict__" : Str))
  | .glo x, .Name y _ => decide (x = y) && T.cons.contains x && c.gl x && nodbg x
  | .non, .Constant k _ _ => match k with | .none => true | _ => false
  | .bl b, .Constant k _ _ => match k with | .bool b' => b == b' | _ => false
  | .int i, .Constant k _ _ => match k with | .int j => decide (i = j) | _ => false
  | .str s, .Constant k _ _ => match k with | .str s' => decide (s = s') | _ => false
  | .tup es, .Tuple xs _ _ => chL T c es xs
  | .lst es, .List xs _ => chL T c es xs
  | .newl es, .List xs _ => chL T c es xs
  | .newk, .Dict ks vs _ => ks.isEmpty && vs.isEmpty
  | .newt, .Dict ks vs _ => ks.isEmpty && vs.isEmpty
  | .newb a, .Call (.Name g _) [x] [] _ => decide (g = "list") && bi1 T c "list" && plainE x && chE T c false a x
  | .sset a, .Call (.Name g _) [y] [] _ => decide (g = "sorted") && bi1 T c "sorted" && bi1 T c "set" && (match setArg y with | some x => plainE x && chE T c false a x | none => false)
  | .lzip a b, .Call (.Name g _) [y] [] _ => decide (g = "list") && bi1 T c "list" && bi1 T c "zip" && (match zipArg y with | some (x, z) => plainE x && plainE z && chE T c false a x && chE T c false b z | none => false)
  | .lins a k, .Call (.Name g _) [x] [] _ => decide (g = "list") && bi1 T c "list" && T.itc.contains k && plainE x && chE T c false a x
  | .op2 o a b, .BinOp l o' r _ => decide (o = o') && chE T c false a l && chE T c false b r
  | .neg a, .UnaryOp o x _ => decide (o = .USub) && chE T c false a x
  | .not a, .UnaryOp o x _ => decide (o = .Not) && chE T c t a x
  | .and es, .BoolOp o xs _ => decide (o = .And) && chB T c t es xs
  | .or es, .BoolOp o xs _ => decide (o = .Or) && chB T c t es xs
  | .ite q a b, .IfExp x y z _ => !t && chE T c true q x && chE T c false a y && chE T c false b z
  | .cmp o a b, .Compare l [o'] [r] _ => decide (o = o') && chE T c false a l && chE T c false b r && !behindInMarks o r
  | .isn a, .Compare l [o'] [.Constant .none _ _] _ => decide (o' = .Is) && chE T c false a l
  | .notn a, .Compare l [o'] [.Constant .none _ _] _ => decide (o' = .IsNot) && chE T c false a l
  | .chn o p a b d, .Compare l [o', p'] [r, s] _ => decide (o = o') && decide (p = p') && chE T c false a l && chE T c false b r && chE T c false d s && !lastMarks [o, p] [r, s]
  | .idx a b, .Subscript l r _ => okIx r && chE T c false a l && chE T c false b r
  | .slc a lo hi, .Subscript l (.Slice x y none _) _ => chE T c false a l && chO T c lo x && chO T c hi y
  | .fld a f, .Attribute l g _ => decide (f = g) && noSup l && T.fls.contains f && chE T c false a l
  | .call f es j, .Call (.Name g _) xs [] _ => decide (f = g) && T.fns.contains f && decide (j ≤ (T.dfl f).length) && c.gl f && nodbg f && xs.all plainE && chL T c es xs
  | .mk k q es j, .Call (.Name g _) xs [] _ => decide (k = g) && T.mks.contains (k, q) && decide (j ≤ (T.dfl q).length) && c.gl k && nodbg k && xs.all plainE && chL T c es xs
  | .mcall a k m q es j, .Call (.Attribute o g apos) xs [] pos => decide (m = g) && T.mths.contains (k, m, q) && decide (j ≤ (T.dfl q).length) && dotB o apos pos xs && chE T c false a o && chL T c es xs
  | .bi f es, .Call (.Name g _) (x :: xs) [] _ => decide (f.name = g) && f.okA && bi1 T c f.name && (x :: xs).all plainE && chL T c es (x :: xs)
  | .meth a m es, .Call (.Attribute o g apos) xs [] pos => decide (m.name = g) && dotB o apos pos xs && chE T c false a o && chL T c es xs
  | .isi a ts, .Call (.Name g _) [x, y] [] _ => decide (g = "isinstance") && bi1 T c "isinstance" && plainE x && chE T c false a x && chIsi T c ts y
  | .lc own tg s q e, .ListComp elt [⟨tx, it, ifs, as⟩] scope _ => decide (as = 0) && blkC c.N c.sc scope (c.own own) && subB tg.all own && noSet it && chI T c s tx it && chTg (c.blk scope) tg tx && chC T (c.blk scope) q ifs && chE T (c.blk scope) false e elt
  | .newc own tg s q e, .ListComp elt [⟨tx, it, ifs, as⟩] scope _ => decide (as = 0) && blkC c.N c.sc scope (c.own own) && subB tg.all own && noSet it && chI T c s tx it && chTg (c.blk scope) tg tx && chC T (c.blk scope) q ifs && chE T (c.blk scope) false e elt
  | .lc2 own own1 tg s tg1 s1 q e, .ListComp elt [⟨tx, it, [], as⟩, ⟨tx1, it1, ifs, as1⟩] scope _ => decide (as = 0) && decide (as1 = 0) && blkC c.N c.sc scope (c.own own) && subB tg.all own && subB tg1.all own1 && subB own1 own && noSet it && noSet it1 &&
      chI T c s tx it && chTg (c.blk scope) tg tx && chI T (c.blk scope) s1 tx1 it1 && chTg (c.blk scope) tg1 tx1 && chC T (c.blk scope) q ifs && chE T (c.blk scope) false e elt
  | .dc own tg s q k v, .DictComp kx vx [⟨tx, it, ifs, as⟩] scope _ => decide (as = 0) && blkC c.N c.sc scope (c.own own) && subB tg.all own && noSet it && chI T c s tx it && chTg (c.blk scope) tg tx && chC T (c.blk scope) q ifs && chE T (c.blk scope) false k kx && chE T (c.blk scope) false v vx
  | .frz a, x => !t && chE T c false a x
  | _, _ => false
def chL (T : Tab) (c : Sc) : EL → List Expr → Bool
  | .nil, [] => true
  | .cons e r, x :: xs => plainE x && chE T c false e x && chL T c r xs
  | _, _ => false
def chB (T : Tab) (c : Sc) (t : Bool) : EL → List Expr → Bool
  | .cons e .nil, [x] => chE T c t e x
  | .cons e r, x :: y :: xs => chE T c t e x && chB T c t r (y :: xs)
  | _, _ => false
def chO (T : Tab) (c : Sc) : EO → Option Expr → Bool
  | .none, none => true
  | .some e, some x => chE T c false e x
  | _, _ => false
def chC (T : Tab) (c : Sc) : EO → List Expr → Bool
  | .none, [] => true
  | .some e, [x] => chE T c true e x
  | _, _ => false
def chI (T : Tab) (c : Sc) : Sr → Expr → Expr → Bool
  | .val e, _, x => chE T c false e x
  | .items e, .Tuple _ _ _, .Call (.Attribute o g apos) [] [] pos => decide (g = "items") && noSup o && (apos.endLine == pos.line) && chE T c false e o
  | .vals e, _, .Call (.Attribute o g apos) [] [] pos => decide (g = "values") && noSup o && (apos.endLine == pos.line) && chE T c false e o
  | .enum e, .Tuple _ _ _, .Call (.Name g _) [x] [] _ => decide (g = "enumerate") && bi1 T c "enumerate" && plainE x && chE T c false e x
  | .zip a b, .Tuple _ _ _, .Call (.Name g _) [x, y] [] _ => decide (g = "zip") && bi1 T c "zip" && plainE x && plainE y && chE T c false a x && chE T c false b y
  | .rng a, _, .Call (.Name g _) [x] [] _ => decide (g = "range") && bi1 T c "range" && plainE x && chE T c false a x
  | .rng2 a b, _, .Call (.Name g _) [x, y] [] _ => decide (g = "range") && bi1 T c "range" && plainE x && plainE y && chE T c false a x && chE T c false b y
  | _, _, _ => false
end
/-! ### what is taken from the context -/
structure Ok (X : Cx) (W : WX) (ft : FT) (T : Tab) (c : Sc) : Prop where
  N : X.N = c.N
  nd : X.N.Nodup
  sc : X.env.scope = c.sc
  fn : ∀ x, X.fn x = c.fn x
  kind : c.sc.kind = .function
  calm : X.calm = true
  tk : Takes X W
  own : PassesOwn (model X.prog X.w) X.A X.env X.xe
  un : X.A.units + 64 < cLine
  dfl : ft.dfl = T.dfl
  bts : ∀ x, T.bts.contains x = true → X.mg x = none
  cons : ∀ x, T.cons.contains x = true → ∃ d v u, X.mg x = some u ∧ RelV v u ∧ ft.con x = some d ∧ ∀ G μ n, Rep X.K G μ n d v
  fns : ∀ f, T.fns.contains f = true → ∃ ad g, ft.fn f = some g ∧ FnK X (ft.dfl f) ad g ∧ X.mg f = some (.ref ad)
  mks : ∀ k q, T.mks.contains (k, q) = true → ∃ ad g, ft.fn q = some g ∧ FnK X (ft.dfl q) ad g ∧ Mk X.K (He.ga X.K k) ad ∧ X.mg k = some (.ref (He.ga X.K k))
  mths : ∀ k m q, T.mths.contains (k, m, q) = true → ∃ ad g, ft.fn q = some g ∧ FnK X (ft.dfl q) ad g ∧ Cls X.K (He.ga X.K k) ∧ Meth X.K (He.ga X.K k) m ad
  clss : ∀ k, T.clss.contains k = true → X.mg k = some (.ref (He.ga X.K k))
  fls : ∀ f, T.fls.contains f = true → ∀ k, (ft.flds k).contains f = true → Cls X.K (He.ga X.K k) ∧ NoAttr X.K (He.ga X.K k) f
  isi : IsiOk X.K ft.cls
  itc : ∀ k, T.itc.contains k = true → ∃ g n fi fl fdI fdL psI psL, ft.its k = some g ∧ InsIt X (He.ga X.K k) g n fi fl fdI fdL psI psL
section
variable {X : Cx} {W : WX} {ft : FT} {T : Tab} {c : Sc}
theorem FnK.blk {dfl : List D} {ad : Addr} {g : List D → Sto → R D} {s : Shared} {H : Hp} {scope : Scope} {env : PySem.Env} {fp : List Addr} (F : FnK X dfl ad g) : FnK (X.blk s H scope env fp) dfl ad g := ⟨F.ex, F.kp⟩
theorem Ok.blk (o : Ok X W ft T c) {scope : Scope} (hk : scope.kind = .function) : Blk X scope fun Y => Ok Y WF ft T (c.blk scope) := fun s H C cl fp =>
  ⟨o.N, o.nd, by show relS scope X.env.scope = relS scope c.sc; rw [o.sc], fun x => rfl, hk, o.calm, fun u s' h => by
      obtain ⟨a, B, sI, pins, σ, H, cls, d, e, I, nb, up, sky, na, os, ag, w⟩ := h
      exact w, PassesOwn.never, o.un, o.dfl, o.bts, o.cons, fun f h => let ⟨ad, g, h1, h2, h3⟩ := o.fns f h; ⟨ad, g, h1, h2.blk, h3⟩, fun k q h => let ⟨ad, g, h1, h2, h3⟩ := o.mks k q h; ⟨ad, g, h1, h2.blk, h3⟩,
      fun k m q h => let ⟨ad, g, h1, h2, h3⟩ := o.mths k m q h; ⟨ad, g, h1, h2.blk, h3⟩, o.clss, o.fls, o.isi, fun k h => let ⟨g, n, fi, fl, fdI, fdL, psI, psL, h1, F⟩ := o.itc k h; ⟨g, n, fi, fl, fdI, fdL, psI, psL, h1, ⟨F.it, F.itF, F.ln, F.lnF, F.FI, F.bI, F.FL, F.bL, F.hr⟩⟩⟩
theorem Ok.kd (o : Ok X W ft T c) {x : Str} {k : NameKind} (h : c.kd x = some k) : X.env.scope.names.lookup x = some k := by rw [o.sc]; exact h
theorem Ok.gl (o : Ok X W ft T c) {x : Str} (h : c.gl x = true) : Gl X x := o.kd (of_decide_eq_true h)
theorem Ok.vis (o : Ok X W ft T c) {x : Str} (h : c.vis x = true) : Vis X.env.scope x := by
  unfold Sc.vis at h
  simp only [Bool.or_eq_true, decide_eq_true_eq] at h
  rcases h with (h | h) | h
  · exact .inl (o.kd h)
  · exact .inr (.inl (o.kd h))
  · exact .inr (.inr (o.kd h))
theorem Ok.tgn (o : Ok X W ft T c) {i : Nat} {x : Str} (h : c.tgn i x = true) : TgN X i x := by
  unfold Sc.tgn Sc.loc at h
  simp only [Bool.or_eq_true, Bool.and_eq_true, decide_eq_true_eq] at h
  obtain ⟨⟨h1, h2⟩, h3⟩ := h
  refine ⟨by rw [o.N]; exact h1, ?_, ?_⟩
  · rcases h2 with h | h
    · exact .inl (o.kd h)
    · exact .inr (o.kd h)
  · rcases h3 with h | h
    · exact .inl (by rw [o.fn]; exact h)
    · exact .inr (o.kd h)
theorem Ok.chN (o : Ok X W ft T c) : ∀ {is : List Nat} {es : List Expr}, chN c is es = true → Paired (fun i e => ∃ x q, e = Expr.Name x q ∧ TgN X i x) is es
  | [], [], _ => .nil
  | i :: is, .Name x q :: es, h => by
    have h : (c.tgn i x && Rf.chN c is es) = true := h
    rw [Bool.and_eq_true] at h
    exact .cons ⟨x, q, rfl, o.tgn h.1⟩ (Ok.chN o h.2)
  | [], _ :: _, h => by cases h
  | i :: is, [], h => by cases h
  | i :: is, e :: es, h => by
    cases e <;> first
      | (have h : (c.tgn i _ && Rf.chN c is es) = true := h
         rw [Bool.and_eq_true] at h
         exact .cons ⟨_, _, rfl, o.tgn h.1⟩ (Ok.chN o h.2))
      | cases h
theorem Ok.tg (o : Ok X W ft T c) {t : Tg} {e : Expr} (h : chTg c t e = true) : TgOk X t e := by
  cases t with
  | nm i => cases e <;> first | exact .nm (o.tgn h) | cases h
  | tp is => cases e <;> first | exact .tp (o.chN h) | cases h
theorem Ok.ty (o : Ok X W ft T c) {t : Ty} {x : Str} (h : chTy T c t x = true) : tyN t = x ∧ TyName X t := by
  unfold chTy at h
  simp only [Bool.and_eq_true, decide_eq_true_eq] at h
  obtain ⟨⟨h1, h2⟩, h3⟩ := h
  subst h1
  refine ⟨rfl, o.gl h2, ?_⟩
  cases t with
  | own k =>
    simp only [Bool.and_eq_true] at h3
    exact ⟨o.clss k h3.1, by simpa [nodbg] using h3.2⟩
  | _ => exact o.bts _ h3
theorem Ok.tys (o : Ok X W ft T c) : ∀ {ts : List Ty} {es : List Expr}, chTys T c ts es = true → Paired (fun t e => TyName X t ∧ ∃ p, e = Expr.Name (tyN t) p) ts es
  | [], [], _ => .nil
  | [], _ :: _, h => by cases h
  | t :: ts, [], h => by cases h
  | t :: ts, e :: es, h => by
    cases e <;> first
      | (have h : (chTy T c t _ && chTys T c ts es) = true := h
         rw [Bool.and_eq_true] at h
         obtain ⟨e1, h1⟩ := o.ty h.1
         exact .cons ⟨h1, _, by rw [e1]⟩ (Ok.tys o h.2))
      | cases h
theorem nodbg_ok {x : Str} (h : nodbg x = true) : (x == ("__debug__" : Str)) = false := by simpa [nodbg] using h
theorem own_map (c : Sc) (is : List Nat) : (c.own is).map (·.2) = is := by
  unfold Sc.own
  rw [List.map_map]
  show is.map (fun i => i) = is
  exact List.map_id' is
theorem subB_ok {is js : List Nat} (h : subB is js = true) : ∀ i ∈ is, i ∈ js := fun i hi => by
  have := List.all_eq_true.mp h i hi
  simpa using this
theorem noSet_ok {e : Expr} (h : noSet e = true) (env : PySem.Env) (x : Value) : foldedSetIterable e env x = pure x := by
  cases e <;> first | rfl | cases h
theorem okIx_ok {e : Expr} (h : okIx e = true) : PlainIx e := by
  intro o i
  cases e <;> first | rfl | cases h
theorem dot_ok {o : Expr} {apos pos : Pos} {es : List Expr} (h : dotB o apos pos es = true) : Dot o apos pos es := by
  unfold dotB at h
  simp only [Bool.and_eq_true, decide_eq_true_eq] at h
  exact ⟨h.1.1.1, h.1.1.2, h.1.2, h.2⟩
theorem chL_nil {es : EL} {xs : List Expr} (h : chL T c es xs = true) (e : xs = []) : es = .nil := by
  subst e
  cases es with
  | nil => rfl
  | cons a r => cases h
theorem chL_plain : ∀ {es : EL} {xs : List Expr}, chL T c es xs = true → xs.all plainE = true
  | .nil, [], _ => rfl
  | .nil, _ :: _, h => by cases h
  | .cons e r, [], h => by cases h
  | .cons e r, x :: xs, h => by
    have h : (plainE x && chE T c false e x && chL T c r xs) = true := h
    simp only [Bool.and_eq_true] at h
    rw [List.all_cons, h.1.1, chL_plain h.2]
    rfl
end
end Rf
end
section
namespace Rf
open PySem L2
def Gd (X : Cx) (W : WX) (ft : FT) (t : Bool) (e : E) (x : Expr) : Prop := match t with
  | false => PE X x (TEv X.K W ft e)
  | true => PT X x (TTv X.K W ft e)
def valE : Expr → Bool
  | .UnaryOp o _ _ => decide (o ≠ .Not)
  | .BoolOp _ _ _ => false
  | .IfExp _ _ _ _ => false
  | .Compare _ _ _ _ => false
  | _ => true
theorem valE_ok {e : Expr} {env : PySem.Env} (h : valE e = true) : ∀ whole, isTrue e env whole = (do let v ← whole; standAt e.pos; holding [v] (truthy v)) := by
  intro whole
  cases e with
  | UnaryOp o x p =>
    cases o with
    | Not => cases h
    | _ => rfl
  | BoolOp _ _ _ => cases h
  | IfExp _ _ _ _ => cases h
  | Compare _ _ _ _ => cases h
  | _ => rfl
section
variable {X : Cx} {W : WX} {ft : FT} {T : Tab} {c : Sc}
theorem Gd.val {t : Bool} {e : E} {x : Expr} (h : PE X x (TEv X.K W ft e)) (hv : valE x = true) : Gd X W ft t e x := by
  cases t with
  | false => exact h
  | true => exact t_val h (valE_ok hv)
theorem Gd.e {e : E} {x : Expr} (h : Gd X W ft false e x) : PE X x (TEv X.K W ft e) := h
theorem Gd.t {e : E} {x : Expr} (h : Gd X W ft true e x) : PT X x (TTv X.K W ft e) := h
theorem Gd.two {t : Bool} {e : E} {x : Expr} (h : PE X x (TEv X.K W ft e)) (h2 : PT X x (TTv X.K W ft e)) : Gd X W ft t e x := by
  cases t with
  | false => exact h
  | true => exact h2
theorem PT.ofW {x : Expr} {t : TT} (h : PW X x t) : PT X x t := ⟨fun pins s σ H Q I q => h.run _ pins s σ H Q I q⟩
/-- what the several parts of an and, an or give -/
def GdB (X : Cx) (W : WX) (ft : FT) (t : Bool) (es : EL) (xs : List Expr) : Prop := ∀ pos, match t with
  | false => PE X (.BoolOp .And xs pos) (TG_ X.K W (evAnd ft es)) ∧ PE X (.BoolOp .Or xs pos) (TG_ X.K W (evOr ft es))
  | true => PW X (.BoolOp .And xs pos) (TB_ X.K W (evAnd ft es)) ∧ PW X (.BoolOp .Or xs pos) (TB_ X.K W (evOr ft es))
theorem Ok.un1 (o : Ok X W ft T c) : X.A.units + 1 < cLine := by have := o.un; omega
theorem kind_of {N : List Str} {sc scope : Scope} {own : List (Str × Nat)} (h : blkC N sc scope own = true) : scope.kind = .function := (blkOk_by h).kind
theorem pair_and {a b : Bool} (h : (a && b) = true) : a = true ∧ b = true := by simpa using h
end
theorem noF {P : Prop} (h : false = true) : P := absurd h Bool.false_ne_true
mutual
theorem sE {ft : FT} {T : Tab} : ∀ (e : E) {X : Cx} {W : WX} {c : Sc} (o : Ok X W ft T c) (t : Bool) (x : Expr), chE T c t e x = true → Gd X W ft t e x
  | .nope, X, W, c, o, t, x, h => by
    have h : (!t) = true := h
    cases t with
    | false => exact nope_e
    | true => cases h
  | .var i, X, W, c, o, t, x, h => by
    cases x with
    | Name x p =>
      have h : (decide (c.N[i]? = some x) && c.vis x && nodbg x && !(x == ("__classdict__" : Str))) = true := h
      simp only [Bool.and_eq_true, decide_eq_true_eq] at h
      obtain ⟨⟨⟨h1, h2⟩, h3⟩, h4⟩ := h
      exact .val (s_var (by rw [o.N]; exact h1) (o.vis h2) (nodbg_ok h3) (by simpa using h4)) rfl
    | _ => exact noF h
  | .glo y, X, W, c, o, t, x, h => by
    cases x with
    | Name x p =>
      have h : (decide (y = x) && T.cons.contains y && c.gl y && nodbg y) = true := h
      simp only [Bool.and_eq_true, decide_eq_true_eq] at h
      obtain ⟨⟨⟨h1, h2⟩, h3⟩, h4⟩ := h
      subst h1
      obtain ⟨d, v, u, g1, g2, g3, g4⟩ := o.cons y h2
      exact .val (s_glo (o.gl h3) g1 g2 (nodbg_ok h4) g3 g4) rfl
    | _ => exact noF h
  | .non, X, W, c, o, t, x, h => by
    cases x with
    | Constant k n p =>
      cases k with
      | none => exact .val s_non rfl
      | _ => exact noF h
    | _ => exact noF h
  | .bl b, X, W, c, o, t, x, h => by
    cases x with
    | Constant k n p =>
      cases k with
      | bool b' =>
        have h : (b == b') = true := h
        have e : b = b' := by simpa using h
        subst e
        exact .val s_bl rfl
      | _ => exact noF h
    | _ => exact noF h
  | .int b, X, W, c, o, t, x, h => by
    cases x with
    | Constant k n p =>
      cases k with
      | int b' =>
        have e : b = b' := of_decide_eq_true h
        subst e
        exact .val s_int rfl
      | _ => exact noF h
    | _ => exact noF h
  | .str b, X, W, c, o, t, x, h => by
    cases x with
    | Constant k n p =>
      cases k with
      | str b' =>
        have e : b = b' := of_decide_eq_true h
        subst e
        exact .val s_str rfl
      | _ => exact noF h
    | _ => exact noF h
  | .tup es, X, W, c, o, t, x, h => by
    cases x with
    | Tuple xs n p => exact .val (s_tup (sL es o xs h)) rfl
    | _ => exact noF h
  | .lst es, X, W, c, o, t, x, h => by
    cases x with
    | List xs p => exact .val (s_lst (sL es o xs h)) rfl
    | _ => exact noF h
  | .newl es, X, W, c, o, t, x, h => by
    cases x with
    | List xs p => exact .val (s_newl (sL es o xs h)) rfl
    | _ => exact noF h
  | .newk, X, W, c, o, t, x, h => by
    cases x with
    | Dict ks vs p =>
      cases ks with
      | nil => cases vs with
        | nil => exact .val s_newk rfl
        | cons _ _ => exact noF h
      | cons _ _ => exact noF h
    | _ => exact noF h
  | .newt, X, W, c, o, t, x, h => by
    cases x with
    | Dict ks vs p =>
      cases ks with
      | nil => cases vs with
        | nil => exact .val s_newt rfl
        | cons _ _ => exact noF h
      | cons _ _ => exact noF h
    | _ => exact noF h
  | .op2 op a b, X, W, c, o, t, x, h => by
    cases x with
    | BinOp l op' r p =>
      have h : (decide (op = op') && chE T c false a l && chE T c false b r) = true := h
      simp only [Bool.and_eq_true, decide_eq_true_eq] at h
      obtain ⟨⟨h1, h2⟩, h3⟩ := h
      subst h1
      exact .val (s_op2 (sE a o false l h2).e (sE b o false r h3).e) rfl
    | _ => exact noF h
  | .neg a, X, W, c, o, t, x, h => by
    cases x with
    | UnaryOp op y p =>
      have h : (decide (op = .USub) && chE T c false a y) = true := h
      simp only [Bool.and_eq_true, decide_eq_true_eq] at h
      obtain ⟨h1, h2⟩ := h
      subst h1
      exact .val (s_neg (sE a o false y h2).e) rfl
    | _ => exact noF h
  | .not a, X, W, c, o, t, x, h => by
    cases x with
    | UnaryOp op y p =>
      have h : (decide (op = .Not) && chE T c t a y) = true := h
      simp only [Bool.and_eq_true, decide_eq_true_eq] at h
      obtain ⟨h1, h2⟩ := h
      subst h1
      have q := sE a o t y h2
      cases t with
      | false => exact s_not q.e
      | true => exact t_not q.t
    | _ => exact noF h
  | .and es, X, W, c, o, t, x, h => by
    cases x with
    | BoolOp op xs p =>
      have h : (decide (op = .And) && chB T c t es xs) = true := h
      simp only [Bool.and_eq_true, decide_eq_true_eq] at h
      obtain ⟨h1, h2⟩ := h
      subst h1
      have q := sB es o t xs h2 p
      cases t with
      | false => exact q.1
      | true => exact PT.ofW q.1
    | _ => exact noF h
  | .or es, X, W, c, o, t, x, h => by
    cases x with
    | BoolOp op xs p =>
      have h : (decide (op = .Or) && chB T c t es xs) = true := h
      simp only [Bool.and_eq_true, decide_eq_true_eq] at h
      obtain ⟨h1, h2⟩ := h
      subst h1
      have q := sB es o t xs h2 p
      cases t with
      | false => exact q.2
      | true => exact PT.ofW q.2
    | _ => exact noF h
  | .ite q a b, X, W, c, o, t, x, h => by
    cases x with
    | IfExp x y z p =>
      have h : (!t && chE T c true q x && chE T c false a y && chE T c false b z) = true := h
      simp only [Bool.and_eq_true] at h
      obtain ⟨⟨⟨h1, h2⟩, h3⟩, h4⟩ := h
      cases t with
      | true => cases h1
      | false => exact s_ite (sE q o true x h2).t (sE a o false y h3).e (sE b o false z h4).e
    | _ => exact noF h
  | .cmp op a b, X, W, c, o, t, x, h => by
    cases x with
    | Compare l ops rs p =>
      match ops, rs, h with
      | [op'], [r], h =>
        have h : (decide (op = op') && chE T c false a l && chE T c false b r && !behindInMarks op r) = true := h
        simp only [Bool.and_eq_true, decide_eq_true_eq] at h
        obtain ⟨⟨⟨h1, h2⟩, h3⟩, h4⟩ := h
        subst h1
        have h4 : behindInMarks op r = false := by simpa using h4
        exact .two (s_cmp o.un (sE a o false l h2).e (sE b o false r h3).e h4) (t_cmp o.un (sE a o false l h2).e (sE b o false r h3).e h4)
      | [], rs, h => exact noF h
      | [_], [], h => exact noF h
      | [_], _ :: _ :: _, h => exact noF h
      | _ :: _ :: _, rs, h => exact noF h
    | _ => exact noF h
  | .isn a, X, W, c, o, t, x, h => by
    cases x with
    | Compare l ops rs p =>
      match ops, rs, h with
      | [op'], [.Constant .none n q], h =>
        have h : (decide (op' = .Is) && chE T c false a l) = true := h
        simp only [Bool.and_eq_true, decide_eq_true_eq] at h
        obtain ⟨h1, h2⟩ := h
        subst h1
        exact .two (s_isn (sE a o false l h2).e) (t_isn (sE a o false l h2).e)
      | [], rs, h => exact noF h
      | [_], [], h => exact noF h
      | [_], r :: _ :: _, h => cases r <;> first | exact noF h | (rename_i k _ _; cases k <;> exact noF h)
      | _ :: _ :: _, rs, h => exact noF h
      | [op'], [r], h => cases r <;> first | exact noF h | (rename_i k _ _; cases k <;> first | exact noF h | (
          have h : (decide (op' = .Is) && chE T c false a l) = true := h
          simp only [Bool.and_eq_true, decide_eq_true_eq] at h
          obtain ⟨h1, h2⟩ := h
          subst h1
          exact .two (s_isn (sE a o false l h2).e) (t_isn (sE a o false l h2).e)))
    | _ => exact noF h
  | .notn a, X, W, c, o, t, x, h => by
    cases x with
    | Compare l ops rs p =>
      match ops, rs, h with
      | [op'], [.Constant .none n q], h =>
        have h : (decide (op' = .IsNot) && chE T c false a l) = true := h
        simp only [Bool.and_eq_true, decide_eq_true_eq] at h
        obtain ⟨h1, h2⟩ := h
        subst h1
        exact .two (s_notn (sE a o false l h2).e) (t_notn (sE a o false l h2).e)
      | [], rs, h => exact noF h
      | [_], [], h => exact noF h
      | [_], r :: _ :: _, h => cases r <;> first | exact noF h | (rename_i k _ _; cases k <;> exact noF h)
      | _ :: _ :: _, rs, h => exact noF h
      | [op'], [r], h => cases r <;> first | exact noF h | (rename_i k _ _; cases k <;> first | exact noF h | (
          have h : (decide (op' = .IsNot) && chE T c false a l) = true := h
          simp only [Bool.and_eq_true, decide_eq_true_eq] at h
          obtain ⟨h1, h2⟩ := h
          subst h1
          exact .two (s_notn (sE a o false l h2).e) (t_notn (sE a o false l h2).e)))
    | _ => exact noF h
  | .chn op q a b d, X, W, c, o, t, x, h => by
    cases x with
    | Compare l ops rs p =>
      match ops, rs, h with
      | [op', q'], [r, s], h =>
        have h : (decide (op = op') && decide (q = q') && chE T c false a l && chE T c false b r && chE T c false d s && !lastMarks [op, q] [r, s]) = true := h
        simp only [Bool.and_eq_true, decide_eq_true_eq] at h
        obtain ⟨⟨⟨⟨⟨h1, h2⟩, h3⟩, h4⟩, h5⟩, h6⟩ := h
        subst h1 h2
        have h6 : lastMarks [op, q] [r, s] = false := by simpa using h6
        exact .two (s_chn o.un (sE a o false l h3).e (sE b o false r h4).e (sE d o false s h5).e h6) (t_chn o.un (sE a o false l h3).e (sE b o false r h4).e (sE d o false s h5).e h6)
      | [], rs, h => exact noF h
      | [_], rs, h => exact noF h
      | [_, _], [], h => exact noF h
      | [_, _], [_], h => exact noF h
      | [_, _], _ :: _ :: _ :: _, h => exact noF h
      | _ :: _ :: _ :: _, rs, h => exact noF h
    | _ => exact noF h
  | .idx a b, X, W, c, o, t, x, h => by
    cases x with
    | Subscript l r p =>
      have h : (okIx r && chE T c false a l && chE T c false b r) = true := h
      simp only [Bool.and_eq_true] at h
      obtain ⟨⟨h1, h2⟩, h3⟩ := h
      exact .val (s_idx o.un1 (sE a o false l h2).e (sE b o false r h3).e (okIx_ok h1)) rfl
    | _ => exact noF h
  | .slc a lo hi, X, W, c, o, t, x, h => by
    cases x with
    | Subscript l r p =>
      cases r with
      | Slice u v w q =>
        cases w with
        | none =>
          have h : (chE T c false a l && chO T c lo u && chO T c hi v) = true := h
          simp only [Bool.and_eq_true] at h
          obtain ⟨⟨h1, h2⟩, h3⟩ := h
          exact .val (s_slc (sE a o false l h1).e (sO lo o u h2) (sO hi o v h3)) rfl
        | some _ => exact noF h
      | _ => exact noF h
    | _ => exact noF h
  | .fld a f, X, W, c, o, t, x, h => by
    cases x with
    | Attribute l g p =>
      have h : (decide (f = g) && noSup l && T.fls.contains f && chE T c false a l) = true := h
      simp only [Bool.and_eq_true, decide_eq_true_eq] at h
      obtain ⟨⟨⟨h1, h2⟩, h3⟩, h4⟩ := h
      subst h1
      exact .val (s_fld (sE a o false l h4).e (base_ok h2) (o.fls f h3)) rfl
    | _ => exact noF h
  | .call f es j, X, W, c, o, t, x, h => by
    cases x with
    | Call fn xs kws p =>
      cases fn with
      | Name g q =>
        cases kws with
        | nil =>
          have h : (decide (f = g) && T.fns.contains f && decide (j ≤ (T.dfl f).length) && c.gl f && nodbg f && xs.all plainE && chL T c es xs) = true := h
          simp only [Bool.and_eq_true, decide_eq_true_eq] at h
          obtain ⟨⟨⟨⟨⟨⟨h1, h2⟩, h3⟩, h4⟩, h5⟩, h6⟩, h7⟩ := h
          subst h1
          obtain ⟨ad, gg, g1, g2, g3⟩ := o.fns f h2
          have h3 : j ≤ (ft.dfl f).length := by rw [o.dfl]; exact h3
          have ha := sL es o xs h7
          cases xs with
          | nil =>
            have e := chL_nil h7 rfl
            subst e
            exact .val (s_call0 o.tk g1 g2 h3 (o.gl h4) g3 (nodbg_ok h5)) rfl
          | cons y ys =>
            rw [List.all_cons, Bool.and_eq_true] at h6
            exact .val (s_call o.tk g1 g2 h3 (o.gl h4) g3 (nodbg_ok h5) ha (star_cons h6.1) (back_any h6.2)) rfl
        | cons _ _ => exact noF h
      | _ => exact noF h
    | _ => exact noF h
  | .mk k q es j, X, W, c, o, t, x, h => by
    cases x with
    | Call fn xs kws p =>
      cases fn with
      | Name g q' =>
        cases kws with
        | nil =>
          have h : (decide (k = g) && T.mks.contains (k, q) && decide (j ≤ (T.dfl q).length) && c.gl k && nodbg k && xs.all plainE && chL T c es xs) = true := h
          simp only [Bool.and_eq_true, decide_eq_true_eq] at h
          obtain ⟨⟨⟨⟨⟨⟨h1, h2⟩, h3⟩, h4⟩, h5⟩, h6⟩, h7⟩ := h
          subst h1
          obtain ⟨ad, gg, g1, g2, g3, g4⟩ := o.mks k q h2
          have h3 : j ≤ (ft.dfl q).length := by rw [o.dfl]; exact h3
          exact .val (s_mk o.tk g1 g2 h3 g3 (o.gl h4) g4 (nodbg_ok h5) (sL es o xs h7) h6 (chL_nil h7)) rfl
        | cons _ _ => exact noF h
      | _ => exact noF h
    | _ => exact noF h
  | .mcall a k m q es j, X, W, c, o, t, x, h => by
    cases x with
    | Call fn xs kws p =>
      cases fn with
      | Attribute ob g apos =>
        cases kws with
        | nil =>
          have h : (decide (m = g) && T.mths.contains (k, m, q) && decide (j ≤ (T.dfl q).length) && dotB ob apos p xs && chE T c false a ob && chL T c es xs) = true := h
          simp only [Bool.and_eq_true, decide_eq_true_eq] at h
          obtain ⟨⟨⟨⟨⟨h1, h2⟩, h3⟩, h4⟩, h5⟩, h6⟩ := h
          subst h1
          obtain ⟨ad, gg, g1, g2, g3, g4⟩ := o.mths k m q h2
          have h3 : j ≤ (ft.dfl q).length := by rw [o.dfl]; exact h3
          exact .val (s_mcall o.tk g1 g2 h3 g3 g4 (sE a o false ob h5).e (sL es o xs h6) (dot_ok h4) (chL_nil h6)) rfl
        | cons _ _ => exact noF h
      | _ => exact noF h
    | _ => exact noF h
  | .bi f es, X, W, c, o, t, x, h => by
    cases x with
    | Call fn xs kws p =>
      cases fn with
      | Name g q =>
        cases xs with
        | nil => exact noF h
        | cons y ys =>
          cases kws with
          | nil =>
            have h : (decide (f.name = g) && f.okA && bi1 T c f.name && (y :: ys).all plainE && chL T c es (y :: ys)) = true := h
            simp only [Bool.and_eq_true, decide_eq_true_eq] at h
            obtain ⟨⟨⟨⟨h1, h2⟩, h3⟩, h4⟩, h5⟩ := h
            subst h1
            have h3 := pair_and h3
            have h4 : plainE y = true ∧ ys.all plainE = true := by simpa using h4
            exact .val (s_biA f h2 o.un o.calm (o.gl h3.1) (o.bts _ h3.2) (sL es o (y :: ys) h5) (star_cons h4.1) (back_any h4.2)) rfl
          | cons _ _ => exact noF h
      | _ => exact noF h
    | _ => exact noF h
  | .meth a m es, X, W, c, o, t, x, h => by
    cases x with
    | Call fn xs kws p =>
      cases fn with
      | Attribute ob g apos =>
        cases kws with
        | nil =>
          have h : (decide (m.name = g) && dotB ob apos p xs && chE T c false a ob && chL T c es xs) = true := h
          simp only [Bool.and_eq_true, decide_eq_true_eq] at h
          obtain ⟨⟨⟨h1, h2⟩, h3⟩, h4⟩ := h
          subst h1
          exact .val (s_meth m o.un1 (sE a o false ob h3).e (sL es o xs h4) (dot_ok h2) (chL_nil h4)) rfl
        | cons _ _ => exact noF h
      | _ => exact noF h
    | _ => exact noF h
  | .isi a ts, X, W, c, o, t, x, h => by
    cases x with
    | Call fn xs kws p =>
      cases fn with
      | Name g q =>
        match xs, kws, h with
        | [y, z], [], h =>
          have h : (decide (g = "isinstance") && bi1 T c "isinstance" && plainE y && chE T c false a y && chIsi T c ts z) = true := h
          simp only [Bool.and_eq_true, decide_eq_true_eq] at h
          obtain ⟨⟨⟨⟨h1, h2⟩, h3⟩, h4⟩, h5⟩ := h
          subst h1
          have h2 := pair_and h2
          have ha := (sE a o false y h4).e
          cases z with
          | Name n q2 =>
            match ts, h5 with
            | [ty], (h5 : chTy T c ty n = true) =>
              obtain ⟨e1, h6⟩ := o.ty h5
              subst e1
              exact .val (s_isi1 o.isi (o.gl h2.1) (o.bts _ h2.2) h6 ha h3) rfl
            | [], h5 => exact noF h5
            | _ :: _ :: _, h5 => exact noF h5
          | Tuple es n q2 =>
            have h5 : (chTys T c ts es && decide (ts.length ≤ 1000)) = true := h5
            simp only [Bool.and_eq_true, decide_eq_true_eq] at h5
            exact .val (s_isiN o.isi (o.gl h2.1) (o.bts _ h2.2) (o.tys h5.1) h5.2 ha h3) rfl
          | _ => exact noF h5
        | [], kws, h => exact noF h
        | [_], kws, h => exact noF h
        | [_, _], _ :: _, h => exact noF h
        | _ :: _ :: _ :: _, kws, h => exact noF h
      | _ => exact noF h
    | _ => exact noF h
  | .sset a, X, W, c, o, t, x, h => by
    cases x with
    | Call fn xs kws p =>
      cases fn with
      | Name g q =>
        match xs, kws, h with
        | [y], [], h =>
          have h : (decide (g = "sorted") && bi1 T c "sorted" && bi1 T c "set" && (match setArg y with | some x => plainE x && chE T c false a x | none => false)) = true := h
          simp only [Bool.and_eq_true, decide_eq_true_eq] at h
          obtain ⟨⟨⟨h1, h3⟩, h4⟩, h5⟩ := h
          subst h1
          have h3 := pair_and h3
          have h4 := pair_and h4
          cases e : setArg y with
          | none => rw [e] at h5; exact noF h5
          | some z =>
            rw [e] at h5
            have h5 := pair_and h5
            obtain ⟨q2, p2, rfl⟩ := setArg_ok e
            exact .val (s_sset o.calm o.un (o.gl h3.1) (o.bts _ h3.2) (o.gl h4.1) (o.bts _ h4.2) (sE a o false z h5.2).e h5.1) rfl
        | [], kws, h => exact noF h
        | [_], _ :: _, h => exact noF h
        | _ :: _ :: _, kws, h => exact noF h
      | _ => exact noF h
    | _ => exact noF h
  | .newb a, X, W, c, o, t, x, h => by
    cases x with
    | Call fn xs kws p =>
      cases fn with
      | Name g q =>
        match xs, kws, h with
        | [y], [], h =>
          have h : (decide (g = "list") && bi1 T c "list" && plainE y && chE T c false a y) = true := h
          simp only [Bool.and_eq_true, decide_eq_true_eq] at h
          obtain ⟨⟨⟨h1, h2⟩, h3⟩, h4⟩ := h
          subst h1
          have h2 := pair_and h2
          exact .val (s_newb o.calm (o.gl h2.1) (o.bts _ h2.2) (sE a o false y h4).e h3) rfl
        | [], kws, h => exact noF h
        | [_], _ :: _, h => exact noF h
        | _ :: _ :: _, kws, h => exact noF h
      | _ => exact noF h
    | _ => exact noF h
  | .lzip a b, X, W, c, o, t, x, h => by
    cases x with
    | Call fn xs kws p =>
      cases fn with
      | Name g q =>
        match xs, kws, h with
        | [y], [], h =>
          have h : (decide (g = "list") && bi1 T c "list" && bi1 T c "zip" && (match zipArg y with | some (x, z) => plainE x && plainE z && chE T c false a x && chE T c false b z | none => false)) = true := h
          simp only [Bool.and_eq_true, decide_eq_true_eq] at h
          obtain ⟨⟨⟨h1, h3⟩, h4⟩, h5⟩ := h
          subst h1
          have h3 := pair_and h3
          have h4 := pair_and h4
          cases e : zipArg y with
          | none => rw [e] at h5; exact noF h5
          | some z =>
            obtain ⟨z1, z2⟩ := z
            rw [e] at h5
            simp only [Bool.and_eq_true] at h5
            obtain ⟨⟨⟨h6, h7⟩, h8⟩, h9⟩ := h5
            obtain ⟨q2, p2, rfl⟩ := zipArg_ok e
            exact .val (s_lzip o.calm (o.gl h3.1) (o.bts _ h3.2) (o.gl h4.1) (o.bts _ h4.2) h6 h7 (sE a o false z1 h8).e (sE b o false z2 h9).e) rfl
        | [], kws, h => exact noF h
        | [_], _ :: _, h => exact noF h
        | _ :: _ :: _, kws, h => exact noF h
      | _ => exact noF h
    | _ => exact noF h
  | .lins a k, X, W, c, o, t, x, h => by
    cases x with
    | Call fn xs kws p =>
      cases fn with
      | Name g q =>
        match xs, kws, h with
        | [y], [], h =>
          have h : (decide (g = "list") && bi1 T c "list" && T.itc.contains k && plainE y && chE T c false a y) = true := h
          simp only [Bool.and_eq_true, decide_eq_true_eq] at h
          obtain ⟨⟨⟨⟨h1, h2⟩, h3⟩, h4⟩, h5⟩ := h
          subst h1
          have h2 := pair_and h2
          obtain ⟨g, n, fi, fl, fdI, fdL, psI, psL, hi, F⟩ := o.itc k h3
          exact .val (s_lins o.calm hi F (o.gl h2.1) (o.bts _ h2.2) (sE a o false y h5).e h4) rfl
        | [], kws, h => exact noF h
        | [_], _ :: _, h => exact noF h
        | _ :: _ :: _, kws, h => exact noF h
      | _ => exact noF h
    | _ => exact noF h
  | .lc own tg s q e, X, W, c, o, t, x, h => by
    cases x with
    | ListComp elt gs scope p =>
      match gs, h with
      | [⟨tx, it, ifs, as⟩], h =>
        have h : (decide (as = 0) && blkC c.N c.sc scope (c.own own) && subB tg.all own && noSet it && chI T c s tx it && chTg (c.blk scope) tg tx && chC T (c.blk scope) q ifs && chE T (c.blk scope) false e elt) = true := h
        simp only [Bool.and_eq_true, decide_eq_true_eq] at h
        obtain ⟨⟨⟨⟨⟨⟨⟨h1, h2⟩, h3⟩, h4⟩, h5⟩, h6⟩, h7⟩, h8⟩ := h
        subst h1
        have ob := o.blk (kind_of h2)
        have bo : BlkOk X.N X.env.scope scope (c.own own) := by rw [o.N, o.sc]; exact blkOk_by h2
        have ho : ∀ i ∈ tg.all, i ∈ (c.own own).map (·.2) := by rw [own_map]; exact subB_ok h3
        have := s_lc (W := W) (pos := p) o.calm o.nd (sI s o tx it h5) bo ho (fun a b C d f => s_tg (ob a b C d f).calm (ob a b C d f).nd ((ob a b C d f).tg h6)) (fun a b C d f => sC q (ob a b C d f) ifs h7) (fun a b C d f => (sE e (ob a b C d f) false elt h8).e) (noSet_ok h4 _)
        rw [own_map] at this
        exact .val this rfl
      | [], h => exact noF h
      | ⟨_, _, _, _⟩ :: _ :: _, h => exact noF h
    | _ => exact noF h
  | .newc own tg s q e, X, W, c, o, t, x, h => by
    cases x with
    | ListComp elt gs scope p =>
      match gs, h with
      | [⟨tx, it, ifs, as⟩], h =>
        have h : (decide (as = 0) && blkC c.N c.sc scope (c.own own) && subB tg.all own && noSet it && chI T c s tx it && chTg (c.blk scope) tg tx && chC T (c.blk scope) q ifs && chE T (c.blk scope) false e elt) = true := h
        simp only [Bool.and_eq_true, decide_eq_true_eq] at h
        obtain ⟨⟨⟨⟨⟨⟨⟨h1, h2⟩, h3⟩, h4⟩, h5⟩, h6⟩, h7⟩, h8⟩ := h
        subst h1
        have ob := o.blk (kind_of h2)
        have bo : BlkOk X.N X.env.scope scope (c.own own) := by rw [o.N, o.sc]; exact blkOk_by h2
        have ho : ∀ i ∈ tg.all, i ∈ (c.own own).map (·.2) := by rw [own_map]; exact subB_ok h3
        have := s_newc (W := W) (pos := p) o.calm o.nd (sI s o tx it h5) bo ho (fun a b C d f => s_tg (ob a b C d f).calm (ob a b C d f).nd ((ob a b C d f).tg h6)) (fun a b C d f => sC q (ob a b C d f) ifs h7) (fun a b C d f => (sE e (ob a b C d f) false elt h8).e) (noSet_ok h4 _)
        rw [own_map] at this
        exact .val this rfl
      | [], h => exact noF h
      | ⟨_, _, _, _⟩ :: _ :: _, h => exact noF h
    | _ => exact noF h
  | .lc2 own own1 tg s tg1 s1 q e, X, W, c, o, t, x, h => by
    cases x with
    | ListComp elt gs scope p =>
      match gs, h with
      | [⟨tx, it, [], as⟩, ⟨tx1, it1, ifs, as1⟩], h =>
        have h : (decide (as = 0) && decide (as1 = 0) && blkC c.N c.sc scope (c.own own) && subB tg.all own && subB tg1.all own1 && subB own1 own && noSet it && noSet it1 &&
          chI T c s tx it && chTg (c.blk scope) tg tx && chI T (c.blk scope) s1 tx1 it1 && chTg (c.blk scope) tg1 tx1 && chC T (c.blk scope) q ifs && chE T (c.blk scope) false e elt) = true := h
        simp only [Bool.and_eq_true, decide_eq_true_eq] at h
        obtain ⟨⟨⟨⟨⟨⟨⟨⟨⟨⟨⟨⟨⟨h1, h1'⟩, h2⟩, h3⟩, h3'⟩, h3''⟩, h4⟩, h4'⟩, h5⟩, h6⟩, h5'⟩, h6'⟩, h7⟩, h8⟩ := h
        subst h1 h1'
        have ob := o.blk (kind_of h2)
        have bo : BlkOk X.N X.env.scope scope (c.own own) := by rw [o.N, o.sc]; exact blkOk_by h2
        have ho : ∀ i ∈ tg.all, i ∈ (c.own own).map (·.2) := by rw [own_map]; exact subB_ok h3
        have hv : ∀ i ∈ own1, i ∈ (c.own own).map (·.2) := by rw [own_map]; exact subB_ok h3''
        have := s_lc2 (W := W) (pos := p) o.calm o.nd (sI s o tx it h5) bo hv ho (subB_ok h3') (fun a b C d f => s_tg (ob a b C d f).calm (ob a b C d f).nd ((ob a b C d f).tg h6)) (fun a b C d f => sI s1 (ob a b C d f) tx1 it1 h5') (fun a b C d f => s_tg (ob a b C d f).calm (ob a b C d f).nd ((ob a b C d f).tg h6')) (fun a b C d f => sC q (ob a b C d f) ifs h7) (fun a b C d f => (sE e (ob a b C d f) false elt h8).e) (noSet_ok h4 _) (fun env x => noSet_ok h4' env x)
        rw [own_map] at this
        exact .val this rfl
      | [], h => exact noF h
      | [⟨_, _, [], _⟩], h => exact noF h
      | [⟨_, _, _ :: _, _⟩], h => exact noF h
      | [⟨tx, it, _ :: _, as⟩, _], h => exact noF h
      | ⟨_, _, [], _⟩ :: ⟨_, _, _, _⟩ :: _ :: _, h => exact noF h
      | ⟨_, _, _ :: _, _⟩ :: _ :: _ :: _, h => exact noF h
    | _ => exact noF h
  | .dc own tg s q k v, X, W, c, o, t, x, h => by
    cases x with
    | DictComp kx vx gs scope p =>
      match gs, h with
      | [⟨tx, it, ifs, as⟩], h =>
        have h : (decide (as = 0) && blkC c.N c.sc scope (c.own own) && subB tg.all own && noSet it && chI T c s tx it && chTg (c.blk scope) tg tx && chC T (c.blk scope) q ifs && chE T (c.blk scope) false k kx && chE T (c.blk scope) false v vx) = true := h
        simp only [Bool.and_eq_true, decide_eq_true_eq] at h
        obtain ⟨⟨⟨⟨⟨⟨⟨⟨h1, h2⟩, h3⟩, h4⟩, h5⟩, h6⟩, h7⟩, h8⟩, h9⟩ := h
        subst h1
        have ob := o.blk (kind_of h2)
        have bo : BlkOk X.N X.env.scope scope (c.own own) := by rw [o.N, o.sc]; exact blkOk_by h2
        have ho : ∀ i ∈ tg.all, i ∈ (c.own own).map (·.2) := by rw [own_map]; exact subB_ok h3
        have := s_dc (W := W) (pos := p) o.calm o.nd (sI s o tx it h5) bo ho (fun a b C d f => s_tg (ob a b C d f).calm (ob a b C d f).nd ((ob a b C d f).tg h6)) (fun a b C d f => sC q (ob a b C d f) ifs h7) (fun a b C d f => (sE k (ob a b C d f) false kx h8).e) (fun a b C d f => (sE v (ob a b C d f) false vx h9).e) (noSet_ok h4 _)
        rw [own_map] at this
        exact .val this rfl
      | [], h => exact noF h
      | ⟨_, _, _, _⟩ :: _ :: _, h => exact noF h
    | _ => exact noF h
  | .frz a, X, W, c, o, t, x, h => by
    have h : (!t && chE T c false a x) = true := h
    have h := pair_and h
    cases t with
    | true => exact noF h.1
    | false => exact s_frz (sE a o false x h.2).e
theorem sL {ft : FT} {T : Tab} : ∀ (es : EL) {X : Cx} {W : WX} {c : Sc} (o : Ok X W ft T c) (xs : List Expr), chL T c es xs = true → PA X xs (TAv X.K W ft es)
  | .nil, X, W, c, o, xs, h => by
    cases xs with
    | nil => exact s_nil
    | cons _ _ => exact noF h
  | .cons e r, X, W, c, o, xs, h => by
    cases xs with
    | nil => exact noF h
    | cons x xs =>
      have h : (plainE x && chE T c false e x && chL T c r xs) = true := h
      simp only [Bool.and_eq_true] at h
      exact s_cons (sE e o false x h.1.2).e (sL r o xs h.2) (star_cons h.1.1)
theorem sB {ft : FT} {T : Tab} : ∀ (es : EL) {X : Cx} {W : WX} {c : Sc} (o : Ok X W ft T c) (t : Bool) (xs : List Expr), chB T c t es xs = true → GdB X W ft t es xs
  | .nil, X, W, c, o, t, xs, h => by exact noF h
  | .cons e .nil, X, W, c, o, t, xs, h => by
    match xs, h with
    | [x], h =>
      have q := sE e o t x h
      intro pos
      cases t with
      | false => exact ⟨s_and1 q.e, s_or1 q.e⟩
      | true => exact ⟨t_and1 q.t, t_or1 q.t⟩
    | [], h => exact noF h
    | x :: y :: xs, h =>
      have h : (chE T c t e x && chB T c t .nil (y :: xs)) = true := h
      exact noF (pair_and h).2
  | .cons e (.cons e2 r), X, W, c, o, t, xs, h => by
    match xs, h with
    | x :: y :: xs, h =>
      have h : (chE T c t e x && chB T c t (.cons e2 r) (y :: xs)) = true := h
      have h := pair_and h
      have q := sE e o t x h.1
      have rr := sB (.cons e2 r) o t (y :: xs) h.2
      intro pos
      cases t with
      | false => exact ⟨s_andc q.e (rr pos).1, s_orc q.e (rr pos).2⟩
      | true => exact ⟨t_andc q.t (rr pos).1, t_orc q.t (rr pos).2⟩
    | [], h => exact noF h
    | [_], h => exact noF h
theorem sO {ft : FT} {T : Tab} : ∀ (e : EO) {X : Cx} {W : WX} {c : Sc} (o : Ok X W ft T c) (x : Option Expr), chO T c e x = true → PO X x (TOv X.K W ft e)
  | .none, X, W, c, o, x, h => by
    cases x with
    | none => exact s_onone
    | some _ => exact noF h
  | .some e, X, W, c, o, x, h => by
    cases x with
    | none => exact noF h
    | some x => exact s_osome (sE e o false x h).e
theorem sC {ft : FT} {T : Tab} : ∀ (e : EO) {X : Cx} {W : WX} {c : Sc} (o : Ok X W ft T c) (xs : List Expr), chC T c e xs = true → PTs X xs (TCv X.K W ft e)
  | .none, X, W, c, o, xs, h => by
    cases xs with
    | nil => exact s_cnone
    | cons _ _ => exact noF h
  | .some e, X, W, c, o, xs, h => by
    match xs, h with
    | [x], h => exact s_csome (sE e o true x h).t
    | [], h => exact noF h
    | _ :: _ :: _, h => exact noF h
theorem sI {ft : FT} {T : Tab} : ∀ (s : Sr) {X : Cx} {W : WX} {c : Sc} (o : Ok X W ft T c) (tx x : Expr), chI T c s tx x = true → PI X tx x (TIv X.K W ft s)
  | .val e, X, W, c, o, tx, x, h => s_val (sE e o false x h).e
  | .items e, X, W, c, o, tx, x, h => by
    cases tx with
    | Tuple tes n tp =>
      cases x with
      | Call fn xs kws p =>
        cases fn with
        | Attribute ob g apos =>
          match xs, kws, h with
          | [], [], h =>
            have h : (decide (g = "items") && noSup ob && (apos.endLine == p.line) && chE T c false e ob) = true := h
            simp only [Bool.and_eq_true, decide_eq_true_eq] at h
            obtain ⟨⟨⟨h1, h2⟩, h3⟩, h4⟩ := h
            subst h1
            exact s_items h2 h3 (sE e o false ob h4).e
          | _ :: _, _, h => exact noF h
          | [], _ :: _, h => exact noF h
        | _ => exact noF h
      | _ => exact noF h
    | _ => exact noF h
  | .vals e, X, W, c, o, tx, x, h => by
    cases x with
    | Call fn xs kws p =>
      cases fn with
      | Attribute ob g apos =>
        match xs, kws, h with
        | [], [], h =>
          have h : (decide (g = "values") && noSup ob && (apos.endLine == p.line) && chE T c false e ob) = true := h
          simp only [Bool.and_eq_true, decide_eq_true_eq] at h
          obtain ⟨⟨⟨h1, h2⟩, h3⟩, h4⟩ := h
          subst h1
          exact s_vals h2 h3 (sE e o false ob h4).e
        | _ :: _, _, h => exact noF h
        | [], _ :: _, h => exact noF h
      | _ => exact noF h
    | _ => exact noF h
  | .enum e, X, W, c, o, tx, x, h => by
    cases tx with
    | Tuple tes n tp =>
      cases x with
      | Call fn xs kws p =>
        cases fn with
        | Name g q =>
          match xs, kws, h with
          | [y], [], h =>
            have h : (decide (g = "enumerate") && bi1 T c "enumerate" && plainE y && chE T c false e y) = true := h
            simp only [Bool.and_eq_true, decide_eq_true_eq] at h
            obtain ⟨⟨⟨h1, h2⟩, h3⟩, h4⟩ := h
            subst h1
            have h2 := pair_and h2
            exact s_enum (o.gl h2.1) (o.bts _ h2.2) h3 (sE e o false y h4).e
          | [], _, h => exact noF h
          | [_], _ :: _, h => exact noF h
          | _ :: _ :: _, _, h => exact noF h
        | _ => exact noF h
      | _ => exact noF h
    | _ => exact noF h
  | .zip a b, X, W, c, o, tx, x, h => by
    cases tx with
    | Tuple tes n tp =>
      cases x with
      | Call fn xs kws p =>
        cases fn with
        | Name g q =>
          match xs, kws, h with
          | [y, z], [], h =>
            have h : (decide (g = "zip") && bi1 T c "zip" && plainE y && plainE z && chE T c false a y && chE T c false b z) = true := h
            simp only [Bool.and_eq_true, decide_eq_true_eq] at h
            obtain ⟨⟨⟨⟨⟨h1, h2⟩, h3⟩, h4⟩, h5⟩, h6⟩ := h
            subst h1
            have h2 := pair_and h2
            exact s_zip (o.gl h2.1) (o.bts _ h2.2) h3 h4 (sE a o false y h5).e (sE b o false z h6).e
          | [], _, h => exact noF h
          | [_], _, h => exact noF h
          | [_, _], _ :: _, h => exact noF h
          | _ :: _ :: _ :: _, _, h => exact noF h
        | _ => exact noF h
      | _ => exact noF h
    | _ => exact noF h
  | .rng a, X, W, c, o, tx, x, h => by
    cases x with
    | Call fn xs kws p =>
      cases fn with
      | Name g q =>
        match xs, kws, h with
        | [y], [], h =>
          have h : (decide (g = "range") && bi1 T c "range" && plainE y && chE T c false a y) = true := h
          simp only [Bool.and_eq_true, decide_eq_true_eq] at h
          obtain ⟨⟨⟨h1, h2⟩, h3⟩, h4⟩ := h
          subst h1
          have h2 := pair_and h2
          exact s_rng (o.gl h2.1) (o.bts _ h2.2) h3 (sE a o false y h4).e
        | [], _, h => exact noF h
        | [_], _ :: _, h => exact noF h
        | _ :: _ :: _, _, h => exact noF h
      | _ => exact noF h
    | _ => exact noF h
  | .rng2 a b, X, W, c, o, tx, x, h => by
    cases x with
    | Call fn xs kws p =>
      cases fn with
      | Name g q =>
        match xs, kws, h with
        | [y, z], [], h =>
          have h : (decide (g = "range") && bi1 T c "range" && plainE y && plainE z && chE T c false a y && chE T c false b z) = true := h
          simp only [Bool.and_eq_true, decide_eq_true_eq] at h
          obtain ⟨⟨⟨⟨⟨h1, h2⟩, h3⟩, h4⟩, h5⟩, h6⟩ := h
          subst h1
          have h2 := pair_and h2
          exact s_rng2 (o.gl h2.1) (o.bts _ h2.2) h3 h4 (sE a o false y h5).e (sE b o false z h6).e
        | [], _, h => exact noF h
        | [_], _, h => exact noF h
        | [_, _], _ :: _, h => exact noF h
        | _ :: _ :: _ :: _, _, h => exact noF h
      | _ => exact noF h
    | _ => exact noF h
  | .inst e k, X, W, c, o, tx, x, h => by
    have h : chI T c (.inst e k) tx x = true := h
    unfold chI at h
    exact noF h
end
end Rf
end
section
namespace Rf
open PySem L2
/-! ### the checker of statements -/
def compOf : Expr → Option (Scope × Pos)
  | .ListComp _ _ s p => some (s, p)
  | .SetComp _ _ s p => some (s, p)
  | .DictComp _ _ _ s p => some (s, p)
  | _ => none
def swW (c : Sc) (value : Expr) (target : Expr) : Bool := match compOf value with
  | none => false
  | some (s, p) => match target with
    | .Name t q => decide (c.kd t = some .local) && (q.line == p.line) && !(s.names.any fun (n, k) => n == t && (k == .local || k == .cell))
    | _ => false
def starB : Expr → Bool
  | .Starred _ _ => true
  | _ => false
def nmB (c : Sc) (line : Nat) : Expr → Option Str
  | .Name id pos => if c.kd id == some .local && pos.line == line then some id else none
  | _ => none
def swS (c : Sc) (tg value : Expr) : Option (Option (List Str)) := match tg with
  | .Tuple ts _ _ => match value with
    | .Tuple vs _ _ =>
      if (!(ts.length == 2 || ts.length == 3) || vs.length != ts.length) = true then some none else
      if (vs.any starB) = true then some none else
      let names := ts.filterMap (nmB c ((ts.head?.map (·.pos.line)).getD 0))
      if (names.length != ts.length || names.eraseDups.length != names.length) = true then some none else
      if (vs.all (foldedForSure 8)) = true then some none else
      if (vs.all (constantsAlone 8)) = true then none else some (some names)
    | _ => some none
  | .List _ _ => none
  | _ => some none
/-- may be stored as it is made -/
def lcB : E → Bool
  | .lc _ _ _ _ _ => true
  | _ => false
def nmO : Expr → Option Str
  | .Name x _ => some x
  | _ => none
def nlB (c : Sc) : Expr → Bool
  | .Name x _ => decide (c.kd x = some .local)
  | _ => false
section
variable {X : Cx} {W : WX} {ft : FT} {T : Tab} {c : Sc}
theorem Ok.bk (o : Ok X W ft T c) : X.env.blockKind = .function := by
  unfold Env.blockKind
  rw [o.sc, o.kind]
  rfl
theorem Ok.kof (o : Ok X W ft T c) : X.env.kindOf = c.kd := by
  funext x
  unfold Env.kindOf
  rw [o.sc]
  rfl
theorem swW_ok (o : Ok X W ft T c) (value target : Expr) (line : Nat) : swapsWith value (some target) line X.env = pure (swW c value target) := by
  have hb := o.bk
  have hk := o.kof
  unfold swapsWith
  cases value <;> first
    | rfl
    | (cases target <;> first
        | rfl
        | (simp only [hb, hk, swW, compOf]
           congr 1
           first
             | rfl
             | (simp only [Expr.pos]
                show (true && _ && _ && _) = _
                rw [Bool.true_and]
                congr 1
                congr 1
                rw [← Bool.coe_iff_coe]
                simp)))
theorem swN_ok {value : Expr} {line : Nat} {env : PySem.Env} (h : compOf value = none) : swapsWith value none line env = pure false := by
  unfold swapsWith
  cases value <;> first | rfl | cases h
theorem swS_ok (o : Ok X W ft T c) {tg value : Expr} {r : Option (List Str)} (h : swS c tg value = some r) : swappedStores [tg] value X.env = pure r := by
  have hb := o.bk
  have hk := o.kof
  unfold swappedStores
  cases tg with
  | Tuple ts kk p =>
    cases value with
    | Tuple vs kv q =>
      unfold swS at h
      simp only at h
      simp only [hb, hk]
      generalize hn : ts.filterMap (nmB c ((ts.head?.map (·.pos.line)).getD 0)) = names at h
      change (if (!(ts.length == 2 || ts.length == 3) || vs.length != ts.length || (ScopeKind.function != ScopeKind.function)) = true then (pure none : Sem (Option (List Str))) else if (vs.any starB) = true then pure none else
        if ((ts.filterMap (nmB c ((ts.head?.map (·.pos.line)).getD 0))).length != ts.length || (ts.filterMap (nmB c ((ts.head?.map (·.pos.line)).getD 0))).eraseDups.length != (ts.filterMap (nmB c ((ts.head?.map (·.pos.line)).getD 0))).length) = true then pure none else
        if (vs.all (foldedForSure 8)) = true then pure none else if (vs.all (constantsAlone 8)) = true then _ else pure (some (ts.filterMap (nmB c ((ts.head?.map (·.pos.line)).getD 0))))) = pure r
      rw [hn]
      by_cases h1 : (!(ts.length == 2 || ts.length == 3) || vs.length != ts.length) = true
      · rw [if_pos h1] at h
        cases h
        rw [if_pos (by rw [h1]; rfl)]
      · rw [if_neg h1] at h
        rw [if_neg (by rw [Bool.eq_false_iff.mpr h1]; decide)]
        by_cases h2 : (vs.any starB) = true
        · rw [if_pos h2] at h
          cases h
          rw [if_pos h2]
        · rw [if_neg h2] at h
          rw [if_neg h2]
          by_cases h3 : (names.length != ts.length || names.eraseDups.length != names.length) = true
          · rw [if_pos h3] at h
            cases h
            rw [if_pos h3]
          · rw [if_neg h3] at h
            rw [if_neg h3]
            by_cases h4 : (vs.all (foldedForSure 8)) = true
            · rw [if_pos h4] at h
              cases h
              rw [if_pos h4]
            · rw [if_neg h4] at h
              rw [if_neg h4]
              by_cases h5 : (vs.all (constantsAlone 8)) = true
              · rw [if_pos h5] at h; cases h
              · rw [if_neg h5] at h
                cases h
                rw [if_neg h5]
    | _ => cases h; rfl
  | List ts p => cases h
  | _ => cases h; rfl
end
mutual
def chS (T : Tab) (c : Sc) : S → Stmt → Bool
  | .nope, _ => true
  | .pass, .Pass _ => true
  | .pass, .Expr (.Constant (.str _) _ _) _ => true
  | .brk, .Break _ => true
  | .cnt, .Continue _ => true
  | .retN, .Return none _ => true
  | .ret e, .Return (some x) _ => chE T c false e x
  | .expr e, .Expr x _ => (compOf x).isNone && chE T c false e x
  | .asg t e, .Assign [tx] x _ => chTg c t tx && chE T c false e x && ((!swW c x tx && decide (swS c tx x = some none)) || (swW c x tx && lcB e))
  | .par is es, .Assign [.Tuple ts k p] (.Tuple xs k2 p2) _ => chN c is ts && chL T c es xs && decide (is.Nodup) && decide (swS c (.Tuple ts k p) (.Tuple xs k2 p2) = some (some (ts.filterMap nmO))) && (ts.all (nlB c)) && decide (is.length = xs.length) && (decide (is.length = 2) || decide (is.length = 3))
  | .fset a f e, .Assign [.Attribute l g _] x _ => decide (f = g) && T.fls.contains f && chE T c false a l && chE T c false e x
  | .iset a b e, .Assign [.Subscript l r _] x _ => chE T c false a l && chE T c false b r && chE T c false e x
  | .ife q s1 s2, .If x u1 u2 _ => chE T c true q x && chSL T c s1 u1 && chSL T c s2 u2
  | .for t s b, .For tx it body [] _ => chTg c t tx && noSet it && chI T c s tx it && chSL T c b body
  | .whl q b, .While x body [] _ => chE T c true q x && chSL T c b body
  | _, _ => false
def chSL (T : Tab) (c : Sc) : SL → List Stmt → Bool
  | .nil, [] => true
  | .cons s r, x :: xs => chS T c s x && chSL T c r xs
  | _, _ => false
end
end Rf
end
section
namespace Rf
open PySem L2
section
variable {X : Cx} {W : WX} {ft : FT} {T : Tab} {c : Sc}
theorem sole_ok (o : Ok X W ft T c) (tx x : Expr) (line : Nat) (h : swW c x tx = false) : swapsWithSole [tx] x line X.env = pure false := by
  show swapsWith x (some tx) line X.env = pure false
  rw [swW_ok o, h]
/-- y = [..] on one line -/
theorem asgLc (o : Ok X W ft T c) {t : Tg} {own : List Nat} {tg : Tg} {s : Sr} {q : EO} {e : E} {tx x : Expr} {pos : Pos} (ht : chTg c t tx = true) (hw : swW c x tx = true) (h : chE T c false (.lc own tg s q e) x = true) : PS X (.Assign [tx] x pos) (TSv X.K W ft (.asg t (.lc own tg s q e))) := by
  cases x with
  | ListComp elt gs scope p =>
    match gs, h with
    | [⟨tgx, it, ifs, as⟩], h =>
      have h : (decide (as = 0) && blkC c.N c.sc scope (c.own own) && subB tg.all own && noSet it && chI T c s tgx it && chTg (c.blk scope) tg tgx && chC T (c.blk scope) q ifs && chE T (c.blk scope) false e elt) = true := h
      simp only [Bool.and_eq_true, decide_eq_true_eq] at h
      obtain ⟨⟨⟨⟨⟨⟨⟨h1, h2⟩, h3⟩, h4⟩, h5⟩, h6⟩, h7⟩, h8⟩ := h
      subst h1
      have ob := o.blk (kind_of h2)
      have bo : BlkOk X.N X.env.scope scope (c.own own) := by rw [o.N, o.sc]; exact blkOk_by h2
      have ho : ∀ i ∈ tg.all, i ∈ (c.own own).map (·.2) := by rw [own_map]; exact subB_ok h3
      have hsw := swW_ok o (.ListComp elt [⟨tgx, it, ifs, 0⟩] scope p) tx pos.line
      rw [hw] at hsw
      cases t with
      | nm i =>
        cases tx with
        | Name y py =>
          have hyl : c.kd y = some .local := by
            have hw : (decide (c.kd y = some .local) && (py.line == p.line) && !(scope.names.any fun (n, k) => n == y && (k == .local || k == .cell))) = true := hw
            simp only [Bool.and_eq_true, decide_eq_true_eq] at hw
            exact hw.1.1
          have tn := o.tgn (i := i) (x := y) ht
          have := s_setLc (W := W) (pos := p) (spos := pos) (py := py) o.calm o.nd tn.1 (o.kd hyl) hsw (sI s o tgx it h5) bo ho (fun a b C d f => s_tg (ob a b C d f).calm (ob a b C d f).nd ((ob a b C d f).tg h6)) (fun a b C d f => sC q (ob a b C d f) ifs h7) (fun a b C d f => (sE e (ob a b C d f) false elt h8).e) (noSet_ok h4 _)
          rw [own_map] at this
          exact s_asgLc this
        | _ => exact noF ht
      | tp is =>
        cases tx with
        | Tuple es k p2 => exact noF hw
        | _ => exact noF ht
    | [], h => exact noF h
    | ⟨_, _, _, _⟩ :: _ :: _, h => exact noF h
  | _ => exact noF h
theorem nl_ok (o : Ok X W ft T c) {x : Str} {p : Pos} (h : nlB c (.Name x p) = true) : X.env.scope.names.lookup x = some .local := o.kd (of_decide_eq_true h)
end
theorem par_ok {ft : FT} {T : Tab} {X : Cx} {W : WX} {c : Sc} (o : Ok X W ft T c) {is : List Nat} {es : EL} {ts xs : List Expr} {k k2 : Nat} {p p2 pos : Pos} (h : chS T c (.par is es) (.Assign [.Tuple ts k p] (.Tuple xs k2 p2) pos) = true) :
    PS X (.Assign [.Tuple ts k p] (.Tuple xs k2 p2) pos) (TSv X.K W ft (.par is es)) := by
  have h : (chN c is ts && chL T c es xs && decide (is.Nodup) && decide (swS c (.Tuple ts k p) (.Tuple xs k2 p2) = some (some (ts.filterMap nmO))) && (ts.all (nlB c)) && decide (is.length = xs.length) && (decide (is.length = 2) || decide (is.length = 3))) = true := h
  simp only [Bool.and_eq_true, decide_eq_true_eq, Bool.or_eq_true] at h
  obtain ⟨⟨⟨⟨⟨⟨h1, h2⟩, h3⟩, h4⟩, h5⟩, h6⟩, h7⟩ := h
  have hw := swS_ok o h4
  have hs := sole_ok o (.Tuple ts k p) (.Tuple xs k2 p2) pos.line rfl
  have ha := sL es o xs h2
  rcases h7 with h7 | h7
  · match is, h7, xs, h6 with
    | [i, j], _, [a, b], _ =>
      match ts, h1 with
      | [.Name x px, .Name y py], h1 =>
        have h1 : (c.tgn i x && (c.tgn j y && true)) = true := h1
        simp only [Bool.and_eq_true] at h1
        have hij : i ≠ j := by simpa using h3
        have h5 : (nlB c (.Name x px) && (nlB c (.Name y py) && true)) = true := h5
        simp only [Bool.and_eq_true] at h5
        exact s_par2 o.calm o.nd (o.tgn h1.1).1 (o.tgn h1.2.1).1 hij (nl_ok o h5.1) (nl_ok o h5.2.1) ha hw hs
      | [], h1 => exact noF h1
      | [t1], h1 => cases t1 <;> first | exact noF h1 | exact noF (pair_and h1).2
      | t1 :: t2 :: t3 :: ts, h1 => cases t1 <;> first | exact noF h1 | (have h1 := (pair_and h1).2; cases t2 <;> first | exact noF h1 | exact noF (pair_and h1).2)
      | [t1, t2], h1 => cases t1 <;> first
          | exact noF h1
          | (have h1' := (pair_and h1).2
             cases t2 <;> first
               | exact noF h1'
               | (rename_i x px y py
                  have h1 : (c.tgn i x && (c.tgn j y && true)) = true := h1
                  simp only [Bool.and_eq_true] at h1
                  have hij : i ≠ j := by simpa using h3
                  have h5 : (nlB c (.Name x px) && (nlB c (.Name y py) && true)) = true := h5
                  simp only [Bool.and_eq_true] at h5
                  exact s_par2 o.calm o.nd (o.tgn h1.1).1 (o.tgn h1.2.1).1 hij (nl_ok o h5.1) (nl_ok o h5.2.1) ha hw hs))
  · match is, h7, xs, h6 with
    | [i, j, q], _, [a, b, d], _ =>
      have pr := o.chN h1
      cases pr with
      | cons e1 r1 =>
        cases r1 with
        | cons e2 r2 =>
          cases r2 with
          | cons e3 r3 =>
            cases r3
            obtain ⟨x, px, rfl, t1⟩ := e1
            obtain ⟨y, py, rfl, t2⟩ := e2
            obtain ⟨z, pz, rfl, t3⟩ := e3
            have h3 : ((i ≠ j ∧ i ≠ q) ∧ j ≠ q) := by simpa using h3
            have h5 : (nlB c (.Name x px) && (nlB c (.Name y py) && (nlB c (.Name z pz) && true))) = true := h5
            simp only [Bool.and_eq_true] at h5
            exact s_par3 o.calm o.nd t1.1 t2.1 t3.1 h3.1.1 h3.1.2 h3.2 (nl_ok o h5.1) (nl_ok o h5.2.1) (nl_ok o h5.2.2.1) ha hw hs
mutual
theorem sS {ft : FT} {T : Tab} : ∀ (s : S) {X : Cx} {W : WX} {c : Sc} (o : Ok X W ft T c) (x : Stmt), chS T c s x = true → PS X x (TSv X.K W ft s)
  | .nope, X, W, c, o, x, h => nope_s
  | .pass, X, W, c, o, x, h => by
    cases x with
    | Pass p => exact s_pass
    | Expr y p =>
      cases y with
      | Constant k n q =>
        cases k with
        | str s => exact s_doc
        | _ => exact noF h
      | _ => exact noF h
    | _ => exact noF h
  | .brk, X, W, c, o, x, h => by
    cases x with
    | Break p => exact s_brk
    | _ => exact noF h
  | .cnt, X, W, c, o, x, h => by
    cases x with
    | Continue p => exact s_cnt
    | _ => exact noF h
  | .retN, X, W, c, o, x, h => by
    cases x with
    | Return v p =>
      cases v with
      | none => exact s_retN
      | some _ => exact noF h
    | _ => exact noF h
  | .ret e, X, W, c, o, x, h => by
    cases x with
    | Return v p =>
      cases v with
      | none => exact noF h
      | some y => exact s_ret (sE e o false y h).e
    | _ => exact noF h
  | .expr e, X, W, c, o, x, h => by
    cases x with
    | Expr y p =>
      have h : ((compOf y).isNone && chE T c false e y) = true := h
      have h := pair_and h
      have hn : compOf y = none := by
        have := h.1
        cases e : compOf y with
        | none => rfl
        | some _ => rw [e] at this; exact noF this
      exact s_expr (sE e o false y h.2).e (swN_ok hn)
    | _ => exact noF h
  | .asg t e, X, W, c, o, x, h => by
    cases x with
    | Assign tgs y p =>
      match tgs, h with
      | [tx], h =>
        have h : (chTg c t tx && chE T c false e y && ((!swW c y tx && decide (swS c tx y = some none)) || (swW c y tx && lcB e))) = true := h
        simp only [Bool.and_eq_true, Bool.or_eq_true, decide_eq_true_eq] at h
        obtain ⟨⟨h1, h2⟩, h3⟩ := h
        rcases h3 with ⟨h3, h4⟩ | ⟨h3, h4⟩
        · have h3 : swW c y tx = false := by simpa using h3
          exact s_asg o.calm o.nd (o.tg h1) (sE e o false y h2).e (sole_ok o tx y p.line h3) (swS_ok o h4)
        · cases e with
          | lc own tg s q e => exact asgLc o h1 h3 h2
          | _ => exact noF h4
      | [], h => exact noF h
      | _ :: _ :: _, h => exact noF h
    | _ => exact noF h
  | .par is es, X, W, c, o, x, h => by
    cases x with
    | Assign tgs y p =>
      match tgs, h with
      | [tx], h =>
        cases tx <;> first
          | exact noF h
          | (cases y <;> first | exact noF h | exact par_ok o h)
      | [], h => exact noF h
      | t1 :: _ :: _, h => cases t1 <;> exact noF h
    | _ => exact noF h
  | .fset a f e, X, W, c, o, x, h => by
    cases x with
    | Assign tgs y p =>
      match tgs, h with
      | [tx], h =>
        cases tx with
        | Attribute l g q =>
          have h : (decide (f = g) && T.fls.contains f && chE T c false a l && chE T c false e y) = true := h
          simp only [Bool.and_eq_true, decide_eq_true_eq] at h
          obtain ⟨⟨⟨h1, h2⟩, h3⟩, h4⟩ := h
          subst h1
          exact s_fset (sE a o false l h3).e (sE e o false y h4).e (o.fls f h2) (by rw [swW_ok o]; cases y <;> rfl)
        | _ => exact noF h
      | [], h => exact noF h
      | t1 :: _ :: _, h => cases t1 <;> exact noF h
    | _ => exact noF h
  | .iset a b e, X, W, c, o, x, h => by
    cases x with
    | Assign tgs y p =>
      match tgs, h with
      | [tx], h =>
        cases tx with
        | Subscript l r q =>
          have h : (chE T c false a l && chE T c false b r && chE T c false e y) = true := h
          simp only [Bool.and_eq_true] at h
          obtain ⟨⟨h1, h2⟩, h3⟩ := h
          exact s_iset o.un1 (sE a o false l h1).e (sE b o false r h2).e (sE e o false y h3).e (by rw [swW_ok o]; cases y <;> rfl)
        | _ => exact noF h
      | [], h => exact noF h
      | t1 :: _ :: _, h => cases t1 <;> exact noF h
    | _ => exact noF h
  | .raise k es, X, W, c, o, x, h => by cases x <;> exact noF h
  | .ife q s1 s2, X, W, c, o, x, h => by
    cases x with
    | If y u1 u2 p =>
      have h : (chE T c true q y && chSL T c s1 u1 && chSL T c s2 u2) = true := h
      simp only [Bool.and_eq_true] at h
      exact s_if (sE q o true y h.1.1).t (sSL s1 o u1 h.1.2) (sSL s2 o u2 h.2)
    | _ => exact noF h
  | .for t s b, X, W, c, o, x, h => by
    cases x with
    | For tx it body els p =>
      cases els with
      | nil =>
        have h : (chTg c t tx && noSet it && chI T c s tx it && chSL T c b body) = true := h
        simp only [Bool.and_eq_true] at h
        obtain ⟨⟨⟨h1, h2⟩, h3⟩, h4⟩ := h
        exact s_for o.own o.calm (sI s o tx it h3) (s_tg o.calm o.nd (o.tg h1)) (sSL b o body h4) (noSet_ok h2 _)
      | cons _ _ => exact noF h
    | _ => exact noF h
  | .whl q b, X, W, c, o, x, h => by
    cases x with
    | While y body els p =>
      cases els with
      | nil =>
        have h : (chE T c true q y && chSL T c b body) = true := h
        have h := pair_and h
        exact s_while o.own (sE q o true y h.1).t (sSL b o body h.2)
      | cons _ _ => exact noF h
    | _ => exact noF h
theorem sSL {ft : FT} {T : Tab} : ∀ (s : SL) {X : Cx} {W : WX} {c : Sc} (o : Ok X W ft T c) (x : List Stmt), chSL T c s x = true → PSs X x (TLv X.K W ft s)
  | .nil, X, W, c, o, x, h => by
    cases x with
    | nil => exact ss_nil
    | cons _ _ => exact noF h
  | .cons s r, X, W, c, o, x, h => by
    cases x with
    | nil => exact noF h
    | cons x xs =>
      have h : (chS T c s x && chSL T c r xs) = true := h
      have h := pair_and h
      exact ss_cons (sS s o x h.1) (sSL r o xs h.2)
end
end Rf
end
section
namespace Rf
open PySem L2
/-! ### how arguments are bound -/
theorem zip_lookup {α : Type} : ∀ {ps : List Str} {us : List α} {x : Str}, us.length = ps.length → x ∈ ps → ∃ v, (ps.zip us).lookup x = some v
  | [], us, x, _, h => by cases h
  | p :: ps, [], x, hl, _ => by cases hl
  | p :: ps, u :: us, x, hl, h => by
    show ∃ v, (match x == p with | true => some u | false => (ps.zip us).lookup x) = some v
    cases q : (x == p) with
    | true => exact ⟨u, rfl⟩
    | false =>
      refine zip_lookup (by simpa using hl) ?_
      rcases List.mem_cons.mp h with e | e
      · rw [e] at q; simp at q
      · exact e
theorem fm_congr {α β : Type} {f g : α → Option β} : ∀ {l : List α}, (∀ x, x ∈ l → f x = g x) → l.filterMap f = l.filterMap g
  | [], _ => rfl
  | a :: l, h => by
    rw [List.filterMap_cons, List.filterMap_cons, h a (List.mem_cons_self ..), fm_congr fun x hx => h x (List.mem_cons_of_mem _ hx)]
theorem zip_map {α : Type} : ∀ {ps : List Str} {us : List α}, us.length = ps.length → ps.Nodup → ps.filterMap (fun n => ((ps.zip us).lookup n).map (n, ·)) = ps.zip us
  | [], us, hl, _ => by cases us <;> rfl
  | p :: ps, [], hl, _ => by cases hl
  | p :: ps, u :: us, hl, nd => by
    have hp : p ∉ ps := (List.nodup_cons.mp nd).1
    have ih := zip_map (ps := ps) (us := us) (by simpa using hl) (List.nodup_cons.mp nd).2
    rw [List.filterMap_cons]
    have e1 : List.lookup p ((p :: ps).zip (u :: us)) = some u := by
      show (match p == p with | true => some u | false => _) = some u
      simp
    rw [e1]
    show (p, u) :: _ = (p, u) :: ps.zip us
    congr 1
    rw [← ih]
    refine fm_congr fun x hx => ?_
    have : (x == p) = false := by
      cases q : (x == p) with
      | false => rfl
      | true => have e : x = p := by simpa using q
                rw [e] at hx; exact absurd hx hp
    show Option.map _ (match x == p with | true => some u | false => (ps.zip us).lookup x) = _
    rw [this]
theorem bind_plain {fd : FuncData} {ps : List Str} {us : List Value} (h1 : fd.params.posonlyargs = []) (h2 : fd.params.vararg = none) (h3 : fd.params.kwonlyargs = []) (h4 : fd.params.kwarg = none) (hd : fd.defaults = .none) (hn : fd.params.args.map (·.arg) = ps)
    (nd : ps.Nodup) (hl : us.length = ps.length) : bindArgs fd ⟨us, []⟩ = pure (ps.zip us) := by
  have hs : seqItems? Value.none = pure none := rfl
  have hm : (List.filter (fun n => (List.lookup n (ps.zip us)).isNone) ps) = [] := by
    rw [List.filter_eq_nil_iff]
    intro x hx
    obtain ⟨v, e⟩ := zip_lookup hl hx
    rw [e]
    simp
  unfold bindArgs
  simp only [h1, h2, h3, h4, hd, hn, hs, List.map_nil, List.nil_append, pure_bind, List.forIn_nil, List.append_nil]
  have hlt : ¬ (us.length > ps.length) := by omega
  simp [hlt, hm, zip_map hl nd]

def plainB (a : Arguments) (ps : List Str) : Bool := a.posonlyargs.isEmpty && a.vararg.isNone && a.kwonlyargs.isEmpty && a.kwarg.isNone && decide (a.args.map (·.arg) = ps) && decide ps.Nodup
/-! ### a law's defs -/
structure Df where
  q : Str
  ps : List Str
  N : List Str
  sl : SL
  dfl : List D
  dd : He.DefD
/-- a class whose instances go through the keys of a field: its __iter__, its __len__ -/
structure ItDef where
  k : Str
  g : Str
  x : Str
  di : He.DefD
  dl : He.DefD
structure Law where
  defs : List Df
  cn : List (Str × D)
  fl : List (Str × List Str)
  cls : List Str
  itd : List ItDef
  T : Tab
def Law.con (L : Law) (x : Str) : Option D := L.cn.lookup x
def Law.flds (L : Law) (k : Str) : List Str := (L.fl.lookup k).getD []
def Law.itsF (L : Law) (k : Str) : Option Str := (L.itd.find? fun i => i.k == k).map (·.g)
def Law.find (L : Law) (q : Str) : Option Df := L.defs.find? fun d => d.q == q
def Law.dflOf (L : Law) (q : Str) : List D := match L.find q with
  | some d => d.dfl
  | none => []
/-- the functions, calls nested at most so deep -/
def Law.ft (L : Law) : Nat → FT
  | 0 => ⟨fun q => (L.find q).map fun _ => fun _ _ => .bad, L.dflOf, L.con, L.flds, L.cls, L.itsF⟩
  | d + 1 => ⟨fun q => (L.find q).map fun df => runD (L.ft d) df.ps.length df.N.length df.sl, L.dflOf, L.con, L.flds, L.cls, L.itsF⟩
def Law.g (L : Law) (d : Nat) (df : Df) : List D → Sto → R D := match d with
  | 0 => fun _ _ => .bad
  | d + 1 => runD (L.ft d) df.ps.length df.N.length df.sl
theorem Law.fn_eq (L : Law) (d : Nat) {q : Str} {df : Df} (h : L.find q = some df) : (L.ft d).fn q = some (L.g d df) := by
  cases d with
  | zero => show (L.find q).map _ = _; rw [h]; rfl
  | succ d => show (L.find q).map _ = _; rw [h]; rfl
theorem Law.dfl_eq (L : Law) (d : Nat) : (L.ft d).dfl = L.dflOf := by cases d <;> rfl
theorem Law.con_eq (L : Law) (d : Nat) : (L.ft d).con = L.con := by cases d <;> rfl
theorem Law.flds_eq (L : Law) (d : Nat) : (L.ft d).flds = L.flds := by cases d <;> rfl
theorem Law.cls_eq (L : Law) (d : Nat) : (L.ft d).cls = L.cls := by cases d <;> rfl
theorem Law.its_eq (L : Law) (d : Nat) : (L.ft d).its = L.itsF := by cases d <;> rfl
theorem Law.dflOf_eq (L : Law) {q : Str} {df : Df} (h : L.find q = some df) : L.dflOf q = df.dfl := by
  unfold Law.dflOf
  rw [h]
def scopeB (N ps : List Str) (sc : Scope) : Bool := decide (sc.kind = .function) && !sc.isCoroutine && !sc.isGenerator && decide N.Nodup && decide (N.take ps.length = ps) && (ps.all fun x => decide (sc.names.lookup x = some .local) || decide (sc.names.lookup x = some .cell)) && sc.names.all fun y => decide (y.2 ≠ .free)
theorem scopeB_ok {N ps : List Str} {sc : Scope} (h : scopeB N ps sc = true) : FnScope N ps sc := by
  unfold scopeB at h
  simp only [Bool.and_eq_true, decide_eq_true_eq, List.all_eq_true, Bool.or_eq_true] at h
  obtain ⟨⟨⟨⟨⟨⟨h1, h2⟩, h3⟩, h4⟩, h5⟩, h6⟩, h7⟩ := h
  exact ⟨h1, by simpa using h2, by simpa using h3, h4, h5, h6, h7⟩
def Df.ok (T : Tab) (df : Df) : Bool := scopeB df.N df.ps df.dd.scope && chSL T ⟨df.N, df.dd.scope, fun _ => true⟩ df.sl df.dd.body
def bodyB (b : List Stmt) (f x g : Str) : Bool := match b with
  | [.Return (some (.Call (.Name f' _) [.Attribute (.Name y _) h _] [] _)) _] => decide (f' = f) && decide (y = x) && decide (h = g)
  | _ => false
theorem bodyB_ok {b : List Stmt} {f x g : Str} (h : bodyB b f x g = true) : ∃ p1 p2 p3 p4 p5, b = [.Return (some (.Call (.Name f p1) [.Attribute (.Name x p2) g p3] [] p4)) p5] := by
  unfold bodyB at h
  split at h
  · simp only [Bool.and_eq_true, decide_eq_true_eq] at h
    obtain ⟨⟨rfl, rfl⟩, rfl⟩ := h
    exact ⟨_, _, _, _, _, rfl⟩
  · cases h
def defB (d : He.DefD) (f x g : Str) : Bool := scopeB [x] [x] d.scope && bodyB d.body f x g && decide (d.scope.names.lookup f = some .globalImplicit) && plainB d.params [x] && !(x == ("__debug__" : Str)) && !(x == ("__classdict__" : Str))
def ItDef.ok (i : ItDef) : Bool := defB i.di "iter" i.x i.g && defB i.dl "len" i.x i.g && decide (i.di.at_ = (i.k, some ("__iter__" : Str))) && decide (i.dl.at_ = (i.k, some ("__len__" : Str)))
structure ItFact (K : Frg) (mg : Str → Option Value) (i : ItDef) : Prop where
  it : PySem.W.findIn K (.ref (He.ga K i.k)) "__iter__" = some (some (.ref (He.fAd K i.di.at_)))
  itF : PySem.W.isFn K (.ref (He.fAd K i.di.at_)) = true
  ln : PySem.W.findIn K (.ref (He.ga K i.k)) "__len__" = some (some (.ref (He.fAd K i.dl.at_)))
  lnF : PySem.W.isFn K (.ref (He.fAd K i.dl.at_)) = true
  FI : ∃ fd, FunD K i.di.name i.di.qual i.di.params i.di.body i.di.scope (i.di.dvs K) (i.di.kws K) (He.fAd K i.di.at_) fd ∧ Binds K fd [i.x] []
  FL : ∃ fd, FunD K i.dl.name i.dl.qual i.dl.params i.dl.body i.dl.scope (i.dl.dvs K) (i.dl.kws K) (He.fAd K i.dl.at_) fd ∧ Binds K fd [i.x] []
  cl : Cls K (He.ga K i.k)
  na : NoAttr K (He.ga K i.k) i.g
  mi : mg "iter" = none
  ml : mg "len" = none
  ok : i.ok = true
/-- what stands behind the top -/
structure Facts (L : Law) (K : Frg) (mg : Str → Option Value) : Prop where
  dfl : L.T.dfl = L.dflOf
  defs : ∀ df, df ∈ L.defs → ∃ fd, FunD K df.dd.name df.dd.qual df.dd.params df.dd.body df.dd.scope (df.dd.dvs K) (df.dd.kws K) (He.fAd K df.dd.at_) fd ∧ ∀ j, j ≤ df.dfl.length → Dfl K fd df.ps df.dfl j
  bts : ∀ x, L.T.bts.contains x = true → mg x = none
  cons : ∀ x, L.T.cons.contains x = true → ∃ d v u, mg x = some u ∧ RelV v u ∧ L.con x = some d ∧ ∀ G μ n, Rep K G μ n d v
  fns : ∀ f, L.T.fns.contains f = true → ∃ df, L.find f = some df ∧ mg f = some (.ref (He.fAd K df.dd.at_))
  mks : ∀ k q, L.T.mks.contains (k, q) = true → ∃ df, L.find q = some df ∧ Mk K (He.ga K k) (He.fAd K df.dd.at_) ∧ mg k = some (.ref (He.ga K k))
  mths : ∀ k m q, L.T.mths.contains (k, m, q) = true → ∃ df, L.find q = some df ∧ Cls K (He.ga K k) ∧ Meth K (He.ga K k) m (He.fAd K df.dd.at_)
  clss : ∀ k, L.T.clss.contains k = true → mg k = some (.ref (He.ga K k))
  fls : ∀ f, L.T.fls.contains f = true → ∀ k, (L.flds k).contains f = true → Cls K (He.ga K k) ∧ NoAttr K (He.ga K k) f
  isi : IsiOk K L.cls
  itc : ∀ k, L.T.itc.contains k = true → ∃ i, (L.itd.find? fun i => i.k == k) = some i ∧ ItFact K mg i
theorem ItFact.ins {P : Program} {w : World} {K : Frg} {mg : Str → Option Value} {X : Cx} {i : ItDef} (F : ItFact X.K X.mg i) (hr : Room 4 X.A) : ∃ n fi fl fdI fdL psI psL, InsIt X (He.ga X.K i.k) i.g n fi fl fdI fdL psI psL := by
  obtain ⟨fdI, FI, bI⟩ := F.FI
  obtain ⟨fdL, FL, bL⟩ := F.FL
  have h := F.ok
  unfold ItDef.ok at h
  simp only [Bool.and_eq_true, decide_eq_true_eq] at h
  obtain ⟨⟨⟨h1, h2⟩, _⟩, _⟩ := h
  unfold defB at h1 h2
  simp only [Bool.and_eq_true, decide_eq_true_eq] at h1 h2
  obtain ⟨⟨⟨⟨⟨s1, b1⟩, g1⟩, _⟩, d1⟩, c1⟩ := h1
  obtain ⟨⟨⟨⟨⟨s2, b2⟩, g2⟩, _⟩, d2⟩, c2⟩ := h2
  obtain ⟨p1, p2, p3, p4, p5, e1⟩ := bodyB_ok b1
  obtain ⟨q1, q2, q3, q4, q5, e2⟩ := bodyB_ok b2
  rw [e1] at FI
  rw [e2] at FL
  have F1 := iter_def (P := X.prog) (w := X.w) (mg := X.mg) (base := X.base) (k := 0) FI (scopeB_ok s1) g1 F.mi (by simpa using d1) (by simpa using c1) F.cl F.na
  have F2 := len_def (P := X.prog) (w := X.w) (mg := X.mg) (base := X.base) (k := 0) FL (scopeB_ok s2) g2 F.ml (by simpa using d2) (by simpa using c2) F.cl F.na
  exact ⟨1, _, _, _, _, _, _, F.it, F.itF, F.ln, F.lnF, F1, bI, F2, bL, hr⟩
theorem find_mem {L : Law} {q : Str} {df : Df} (h : L.find q = some df) : df ∈ L.defs := List.mem_of_find?_eq_some h
section
variable {P : Program} {w : World} {K : Frg} {mg : Str → Option Value} {base : Heap}
theorem start_env {G : Hp} {μ : Mu} {n : Nat} {ds : List D} {vs : List V} {N : List Str} (r : Reps K G μ n ds vs) : REnv K G μ n (ds.map some ++ List.replicate (N.length - ds.length) none) (L2.start N vs) := by
  unfold L2.start
  refine ⟨by simp [r.length], fun i d e => ?_⟩
  by_cases hi : i < ds.length
  · rw [List.getElem?_append_left (by simpa using hi), List.getElem?_map] at e
    cases e1 : ds[i]? with
    | none => rw [e1] at e; cases e
    | some d' =>
      rw [e1] at e
      cases e
      obtain ⟨v, e2, rv⟩ := r.get e1
      refine ⟨v, ?_, rv⟩
      have hv : i < vs.length := by rw [r.length]; exact hi
      rw [List.getElem?_append_left (by simpa using hv), List.getElem?_map, e2]
      rfl
  · rw [List.getElem?_append_right (by simpa using hi), List.getElem?_replicate] at e
    split at e <;> cases e
/-- every def keeps what the interpreter says of it -/
theorem defs_ok {L : Law} (F : Facts L K mg) (C : ∀ df, df ∈ L.defs → df.ok L.T = true) : ∀ (d : Nat) (df : Df), df ∈ L.defs →
    ∃ fd, FunD K df.dd.name df.dd.qual df.dd.params df.dd.body df.dd.scope (df.dd.dvs K) (df.dd.kws K) (He.fAd K df.dd.at_) fd ∧ FnOk P w K mg base (L2.CX P w) (2 * d + 4) (He.fAd K df.dd.at_) fd df.ps (spD K (L.g d df)) ∧ (∀ j, j ≤ df.dfl.length → Dfl K fd df.ps df.dfl j) ∧ PySem.W.keepIn K (.ref (He.fAd K df.dd.at_)) = true
  | 0, df, hm => by
    obtain ⟨fd, f1, f2⟩ := F.defs df hm
    refine ⟨fd, f1, ⟨fun vs H Q E h => ?_, fun A outer s H args us vs Q E _ _ _ _ h => ?_⟩, f2, f1.kp⟩
    · obtain ⟨μ, Ω, ds, _, _, p⟩ := h
      exact False.elim p
    · obtain ⟨μ, Ω, ds, _, _, p⟩ := h
      exact False.elim p
  | d + 1, df, hm => by
    obtain ⟨fd, f1, f2⟩ := F.defs df hm
    have hok := pair_and (C df hm)
    have S := scopeB_ok hok.1
    refine ⟨fd, f1, ?_, f2, f1.kp⟩
    refine f1.ok (k := 2 * d + 5) S (fun vs H Q E h => ?_) (fun cdv A outer s H vs Q E hr h => ?_)
    · obtain ⟨μ, Ω, ds, _, r, p⟩ := h
      have p : Post K (rD K) (fun c d _ H' => E c d H') [] H μ Ω (runD (L.ft d) df.ps.length df.N.length df.sl ds Ω) Q := p
      unfold runD at p
      by_cases e : ds.length = df.ps.length
      · rw [r.length]; exact e
      · rw [if_neg e] at p; exact False.elim p
    · let X := cxOf (L2.CX P w) P w K mg base df.N df.dd.qual df.dd.scope (He.fAd K df.dd.at_) cdv A outer s H E
      have fk : ∀ df', df' ∈ L.defs → FnK X df'.dfl (He.fAd K df'.dd.at_) (L.g d df') := fun df' hm' => by
        obtain ⟨fd', _, g1, g2, g3⟩ := defs_ok F C d df' hm'
        exact ⟨⟨2 * d + 4, fd', df'.ps, g1, hr, g2⟩, g3⟩
      have o : Ok X (fun c d _ H' => E c d H') (L.ft d) L.T ⟨df.N, df.dd.scope, fun _ => true⟩ := by
        refine ⟨rfl, S.nd, rfl, fun _ => rfl, S.kind, rfl, takes_of rfl rfl rfl rfl, passes_of rfl, hr.units, by rw [L.dfl_eq, F.dfl], F.bts, ?_, ?_, ?_, ?_, F.clss, ?_, ?_, ?_⟩
        · rw [L.con_eq]; exact F.cons
        · intro f hf
          obtain ⟨df', h1, h2⟩ := F.fns f hf
          refine ⟨_, L.g d df', L.fn_eq d h1, ?_, h2⟩
          rw [L.dfl_eq, L.dflOf_eq h1]
          exact fk df' (find_mem h1)
        · intro k q hf
          obtain ⟨df', h1, h2, h3⟩ := F.mks k q hf
          refine ⟨_, L.g d df', L.fn_eq d h1, ?_, h2, h3⟩
          rw [L.dfl_eq, L.dflOf_eq h1]
          exact fk df' (find_mem h1)
        · intro k m q hf
          obtain ⟨df', h1, h2, h3⟩ := F.mths k m q hf
          refine ⟨_, L.g d df', L.fn_eq d h1, ?_, h2, h3⟩
          rw [L.dfl_eq, L.dflOf_eq h1]
          exact fk df' (find_mem h1)
        · rw [L.flds_eq]; exact F.fls
        · rw [L.cls_eq]; exact F.isi
        · intro k hk
          obtain ⟨i, h1, h2⟩ := F.itc k hk
          obtain ⟨n, fi, fl, fdI, fdL, psI, psL, G⟩ := ItFact.ins (P := P) (w := w) (K := K) (mg := mg) (X := X) h2 (hr.mono (by omega))
          have ek : i.k = k := by simpa using List.find?_some h1
          refine ⟨i.g, n, fi, fl, fdI, fdL, psI, psL, ?_, by rw [← ek]; exact G⟩
          rw [L.its_eq]
          unfold Law.itsF
          rw [h1]
          rfl
      refine ⟨TLv K (fun c d _ H' => E c d H') (L.ft d) df.sl, sSL df.sl o df.dd.body hok.2, ?_⟩
      obtain ⟨μ, Ω, ds, wf, r, p⟩ := h
      have p : Post K (rD K) (fun c d _ H' => E c d H') [] H μ Ω (runD (L.ft d) df.ps.length df.N.length df.sl ds Ω) Q := p
      unfold runD at p
      by_cases e : ds.length = df.ps.length
      · rw [if_pos e] at p
        refine ⟨μ, Ω, _, ⟨wf, start_env r⟩, ?_⟩
        generalize exL (L.ft d) df.sl (ds.map some ++ List.replicate (df.N.length - ds.length) none) Ω = rr at p
        cases rr with
        | bad => exact p
        | ex x ρ Ω' => exact fun σ' dd H' μ' ex _ q => p dd H' μ' ex q
        | ok f Ω' =>
          cases f with
          | nx ρ => exact fun σ' H' μ' ex _ => p .non H' μ' ex rnon
          | rt v => exact fun v H' μ' ex q => p v H' μ' ex q
          | bk ρ => exact False.elim p
          | ct ρ => exact False.elim p
      · rw [if_neg e] at p; exact False.elim p
end
end Rf
end
section
namespace Rf
open PySem L2
/-! ### defaults -/
def e0B (K : Frg) (a : Addr) : Bool := match K.lookup a with
  | some ⟨.type c, _, .seq its _, _⟩ => decide (c = "tuple") && its.isEmpty
  | _ => false
theorem e0B_ok {K : Frg} {a : Addr} (h : e0B K a = true) (H : Hp) : SqT K H a [] := by
  unfold e0B at h
  split at h
  · rename_i c od its n sl q
    simp only [Bool.and_eq_true, decide_eq_true_eq] at h
    have e : its = #[] := Array.isEmpty_iff.mp h.2
    subst e
    exact .inr ⟨_, #[], n, q, by rw [h.1], rfl, Nat.zero_le _, .nil⟩
  · cases h
def dvB (K : Frg) : D → He.Dv → Bool
  | .non, .non => true
  | .bl b, .bl c => b == c
  | .int i, .int j => decide (i = j)
  | .str x, .str y => decide (x = y)
  | .e0, .adr p => e0B K (p K)
  | _, _ => false
theorem dvB_ok {K : Frg} {d : D} {v : He.Dv} (h : dvB K d v = true) (G : Hp) (μ : Mu) (n : Nat) : Rep K G μ n d (v.v K) := by
  unfold dvB at h
  split at h
  · simp only [Rep]; rfl
  · simp only [Rep]; rename_i b c; have : b = c := by simpa using h
    rw [this]; rfl
  · simp only [Rep]; rw [of_decide_eq_true h]; rfl
  · simp only [Rep]; rw [of_decide_eq_true h]; rfl
  · rename_i p; simp only [Rep]; exact ⟨p K, rfl, e0B_ok h G⟩
  · cases h
def dvsB (K : Frg) : List D → List He.Dv → Bool
  | [], [] => true
  | d :: ds, v :: vs => dvB K d v && dvsB K ds vs
  | _, _ => false
theorem dvsB_ok {K : Frg} (G : Hp) (μ : Mu) (n : Nat) : ∀ {ds : List D} {vs : List He.Dv}, dvsB K ds vs = true → Reps K G μ n ds (vs.map (He.Dv.v K))
  | [], [], _ => Reps.nil
  | [], _ :: _, h => by cases h
  | _ :: _, [], h => by cases h
  | d :: ds, v :: vs, h => by
    have h := pair_and (show (dvB K d v && dvsB K ds vs) = true from h)
    exact Reps.cons (dvB_ok h.1 G μ n) (dvsB_ok G μ n h.2)
def BndOk (df : Df) : Prop := ∀ K fd, FunD K df.dd.name df.dd.qual df.dd.params df.dd.body df.dd.scope (df.dd.dvs K) (df.dd.kws K) (He.fAd K df.dd.at_) fd → ∀ j, j ≤ df.dfl.length → ∃ ds, Vals ((df.dd.dvs K).drop j) ds ∧ Binds K fd df.ps ds
theorem plainB_ok {a : Arguments} {ps : List Str} (h : plainB a ps = true) : a.posonlyargs = [] ∧ a.vararg = none ∧ a.kwonlyargs = [] ∧ a.kwarg = none ∧ a.args.map (·.arg) = ps ∧ ps.Nodup := by
  unfold plainB at h
  simp only [Bool.and_eq_true, decide_eq_true_eq, List.isEmpty_iff, Option.isNone_iff_eq_none] at h
  obtain ⟨⟨⟨⟨⟨h1, h2⟩, h3⟩, h4⟩, h5⟩, h6⟩ := h
  exact ⟨h1, h2, h3, h4, h5, h6⟩
theorem binds_plain {K : Frg} {nm qual : Str} {params : Arguments} {body : List Stmt} {scope : Scope} {kws : List (Str × V)} {f : Addr} {fd : FuncData} {ps : List Str} (h : plainB params ps = true) (F : FunD K nm qual params body scope [] kws f fd) : Binds K fd ps [] := by
  obtain ⟨h1, h2, h3, h4, h5, h6⟩ := plainB_ok h
  exact F.bindsN fun kV doc pm an cdv ct us hl => bind_plain h1 h2 h3 h4 rfl h5 h6 hl
theorem bnd_plain {df : Df} (h : (plainB df.dd.params df.ps && df.dfl.isEmpty && df.dd.dfl.isEmpty) = true) : BndOk df := by
  simp only [Bool.and_eq_true, List.isEmpty_iff] at h
  obtain ⟨⟨h1, h2⟩, h3⟩ := h
  intro K fd F j hj
  have e : df.dd.dvs K = [] := by unfold He.DefD.dvs; rw [h3]; rfl
  rw [e] at F ⊢
  exact ⟨[], by simpa using Paired.nil, binds_plain h1 F⟩
/-! ### what isinstance asks -/
def baseKd : List Kd := [.non, .bl, .int, .str, .tup, .lst, .dct]
def baseTy : List Ty := [.int, .bool, .str, .list, .tuple, .dict]
def allKd (cls : List Str) : List Kd := baseKd ++ cls.map .own
def allTy (cls : List Str) : List Ty := baseTy ++ cls.map .own
def isiB (K : Frg) (cls : List Str) : Bool := (allKd cls).all fun k => (allTy cls).all fun t => decide (PySem.W.kitOne K (kdV K k) (tyU K t) = some (kdB t k))
def ownB (K : Frg) (c : Str) : Bool := (He.Fa.cls c).ok K && He.eqO (PySem.W.findIn K (.ref (He.ga K c)) "__class__") (some (some (.builtin "object.__class__"))) && He.eqO (PySem.W.specialIn K (.builtin "object.__class__") "__get__") (some (some (.builtin "getset_descriptor.__get__"))) &&
  decide (PySem.W.takesIn K (.builtin "object.__class__") = some true) && decide (PySem.W.mroIn K (He.ga K c) (.type "object") = some true)
theorem isiB_ok {K : Frg} {cls : List Str} (h : isiB K cls = true) (h2 : cls.all (ownB K) = true) : IsiOk K cls := by
  refine ⟨fun c hc => ?_, fun k t hk ht => ?_⟩
  · have h := List.all_eq_true.mp h2 c (by simpa using hc)
    unfold ownB at h
    simp only [Bool.and_eq_true, decide_eq_true_eq] at h
    obtain ⟨⟨⟨⟨h1, h2⟩, h3⟩, h4⟩, h5⟩ := h
    exact ⟨He.cls_ok h1, He.eqO_ok h2, He.eqO_ok h3, h4, h5⟩
  · have mk : k ∈ allKd cls := by
      cases k with
      | own c => exact List.mem_append_right _ (List.mem_map.mpr ⟨c, by simpa using hk c rfl, rfl⟩)
      | _ => exact List.mem_append_left _ (by decide)
    have mt : t ∈ allTy cls := by
      cases t with
      | own c => exact List.mem_append_right _ (List.mem_map.mpr ⟨c, by simpa [tyOk] using ht, rfl⟩)
      | _ => exact List.mem_append_left _ (by decide)
    exact of_decide_eq_true (List.all_eq_true.mp (List.all_eq_true.mp h k mk) t mt)
/-! ### constants of the module -/
def conB (K : Frg) (x : Str) : D → Bool
  | .str s => (He.Fa.str x s).ok K
  | .int i => (He.Fa.int x i).ok K
  | .tup [.int i, .int j] => (He.Fa.glo x).ok K && He.tupB K x [.int i, .int j]
  | _ => false
theorem conB_ok {K : Frg} {h : Heap} {mg : Str → Option Value} {x : Str} {d : D} (X : K.In h) (G : h.Ns mainGlobals mg) (c : conB K x d = true) : ∃ v u, mg x = some u ∧ RelV v u ∧ ∀ G μ n, Rep K G μ n d v := by
  unfold conB at c
  split at c
  · rename_i s
    obtain ⟨t, e⟩ := He.str_ok X G c
    exact ⟨.str s, _, e, ⟨t, rfl⟩, fun G μ n => by simp only [Rep]⟩
  · rename_i i
    obtain ⟨t, e⟩ := He.int_ok X G c
    exact ⟨.int i, _, e, ⟨t, rfl⟩, fun G μ n => by simp only [Rep]⟩
  · rename_i i j
    have c := pair_and c
    refine ⟨.ref (He.ga K x), _, He.glo_ok X G c.1, rfl, fun G μ n => ?_⟩
    simp only [Rep]
    refine ⟨_, [.int i, .int j], rfl, Reps.cons (by simp only [Rep]) (Reps.one (by simp only [Rep])), ?_, .inr ⟨rfl, He.tupB_ok c.2 G⟩⟩
    rw [← big_eq]; exact Nat.le_of_ble_eq_true rfl
  · cases c
/-! ### all facts of a law -/
def Law.fa (L : Law) : List He.Fa := L.T.bts.map .free ++ (L.T.fns.map .glo ++ (L.T.mks.flatMap (fun p => [.mkr p.1, .glo p.1]) ++ (L.T.mths.flatMap (fun p => [.cls p.1, .meth p.1 p.2.1]) ++ (L.T.clss.map .glo ++
  (L.fl.flatMap (fun p => .cls p.1 :: p.2.map (.noat p.1)) ++ L.itd.flatMap (fun i => [.meth i.k "__iter__", .meth i.k "__len__", .cls i.k, .noat i.k i.g, .free "iter", .free "len"]))))))
def Law.fnD (L : Law) : List He.DefD := L.defs.map (·.dd) ++ L.itd.flatMap fun i => [i.di, i.dl]
def Law.ex (L : Law) (K : Frg) : Bool := isiB K L.cls && (L.cls.all (ownB K) && ((L.T.cons.all fun x => match L.con x with | some d => conB K x d | none => false) && L.defs.all fun df => dvsB K df.dfl df.dd.dfl))
/-- the table agrees with the defs -/
def Law.chk (L : Law) : Bool := (L.T.fns.all fun f => match L.find f with | some df => decide (df.dd.at_ = (f, none)) | none => false) && (L.T.mks.all fun p => match L.find p.2 with | some df => decide (df.dd.at_ = (p.1, some ("__init__" : Str))) | none => false) &&
  (L.T.mths.all fun p => match L.find p.2.2 with | some df => decide (df.dd.at_ = (p.1, some p.2.1)) | none => false) && (L.T.itc.all fun k => match L.itd.find? (fun i => i.k == k) with | some i => i.ok && i.di.dfl.isEmpty && i.dl.dfl.isEmpty | none => false)
section
variable {L : Law} {K : Frg} {h : Heap} {mg : Str → Option Value} {w : World}
theorem lookup_in {β : Type} {k : Str} {v : β} : ∀ {l : List (Str × β)}, l.lookup k = some v → (k, v) ∈ l
  | [], h => by cases h
  | (j, u) :: r, h => by
    have h2 : (match k == j with | true => some u | false => r.lookup k) = some v := h
    cases q : (k == j) with
    | true =>
      rw [q] at h2
      have e : k = j := by simpa using q
      rw [e, Option.some.inj h2]
      exact List.mem_cons_self ..
    | false => rw [q] at h2; exact List.mem_cons_of_mem _ (lookup_in h2)
theorem mem_fm {α β : Type} {f : α → List β} {l : List α} {a : α} {b : β} (ha : a ∈ l) (hb : b ∈ f a) : b ∈ l.flatMap f := List.mem_flatMap.mpr ⟨a, ha, hb⟩
theorem Law.facts (hd : L.T.dfl = L.dflOf) (hk : L.chk = true) (B : ∀ df, df ∈ L.defs → BndOk df) (X : K.In h) (G : h.Ns mainGlobals mg) (S : He.SaysX L.fa L.fnD [] [] L.ex w h K) : Facts L K mg := by
  have D := S.t.d
  have hm := S.more
  unfold Law.ex at hm
  simp only [Bool.and_eq_true] at hm
  obtain ⟨m1, m2, m3, m4⟩ := hm
  unfold Law.chk at hk
  simp only [Bool.and_eq_true] at hk
  obtain ⟨⟨⟨k1, k2⟩, k3⟩, k4⟩ := hk
  have fct : ∀ f, f ∈ L.fa → f.ok K = true := fun f hf => D.facts hf
  refine ⟨hd, fun df hdf => ?_, fun x hx => ?_, fun x hx => ?_, fun f hf => ?_, fun k q hq => ?_, fun k m q hq => ?_, fun k hk => ?_, fun f hf k hkf => ?_, isiB_ok m1 m2, fun k hk => ?_⟩
  · obtain ⟨fd, F⟩ := D.defs (d := df.dd) (List.mem_append_left _ (List.mem_map.mpr ⟨df, hdf, rfl⟩))
    refine ⟨fd, F, fun j hj => ?_⟩
    obtain ⟨ds, v1, v2⟩ := B df hdf K fd F j hj
    refine ⟨_, ds, fun G μ n => ?_, v1, v2⟩
    exact Reps.drop j (dvsB_ok G μ n (List.all_eq_true.mp m4 df hdf))
  · exact He.free_ok X G (fct _ (List.mem_append_left _ (List.mem_map.mpr ⟨x, by simpa using hx, rfl⟩)))
  · have h3 := List.all_eq_true.mp m3 x (by simpa using hx)
    cases e : L.con x with
    | none => rw [e] at h3; cases h3
    | some d =>
      rw [e] at h3
      obtain ⟨v, u, e1, e2, e3⟩ := conB_ok X G h3
      exact ⟨d, v, u, e1, e2, rfl, e3⟩
  · have h1 := List.all_eq_true.mp k1 f (by simpa using hf)
    cases e : L.find f with
    | none => rw [e] at h1; cases h1
    | some df =>
      rw [e] at h1
      have e1 : df.dd.at_ = (f, none) := of_decide_eq_true h1
      refine ⟨df, rfl, ?_⟩
      rw [e1]
      exact He.glo_ok X G (fct _ (List.mem_append_right _ (List.mem_append_left _ (List.mem_map.mpr ⟨f, by simpa using hf, rfl⟩))))
  · have h1 := List.all_eq_true.mp k2 (k, q) (by simpa using hq)
    have mem : ∀ z ∈ [He.Fa.mkr k, .glo k], z ∈ L.fa := fun z hz => List.mem_append_right _ (List.mem_append_right _ (List.mem_append_left _ (mem_fm (a := (k, q)) (by simpa using hq) hz)))
    cases e : L.find q with
    | none => simp only [e] at h1; cases h1
    | some df =>
      simp only [e] at h1
      have e1 : df.dd.at_ = (k, some ("__init__" : Str)) := of_decide_eq_true h1
      refine ⟨df, rfl, ?_, He.glo_ok X G (fct _ (mem _ (by simp)))⟩
      rw [e1]
      exact He.mkr_ok (fct _ (mem _ (by simp)))
  · have h1 := List.all_eq_true.mp k3 (k, m, q) (by simpa using hq)
    have mem : ∀ z ∈ [He.Fa.cls k, .meth k m], z ∈ L.fa := fun z hz => List.mem_append_right _ (List.mem_append_right _ (List.mem_append_right _ (List.mem_append_left _ (mem_fm (a := (k, m, q)) (by simpa using hq) hz))))
    cases e : L.find q with
    | none => simp only [e] at h1; cases h1
    | some df =>
      simp only [e] at h1
      have e1 : df.dd.at_ = (k, some m) := of_decide_eq_true h1
      refine ⟨df, rfl, He.cls_ok (fct _ (mem _ (by simp))), ?_⟩
      rw [e1]
      exact He.meth_ok (fct _ (mem _ (by simp)))
  · exact He.glo_ok X G (fct _ (List.mem_append_right _ (List.mem_append_right _ (List.mem_append_right _ (List.mem_append_right _ (List.mem_append_left _ (List.mem_map.mpr ⟨k, by simpa using hk, rfl⟩)))))))
  · have mem : ∀ z, z ∈ L.fl.flatMap (fun p => He.Fa.cls p.1 :: p.2.map (.noat p.1)) → z ∈ L.fa := fun z hz => List.mem_append_right _ (List.mem_append_right _ (List.mem_append_right _ (List.mem_append_right _ (List.mem_append_right _ (List.mem_append_left _ hz)))))
    unfold Law.flds at hkf
    cases e : L.fl.lookup k with
    | none => rw [e] at hkf; cases hkf
    | some fs =>
      rw [e] at hkf
      have hkf : fs.contains f = true := hkf
      have hp : (k, fs) ∈ L.fl := lookup_in e
      exact ⟨He.cls_ok (fct _ (mem _ (mem_fm hp (List.mem_cons_self ..)))), He.noat_ok (fct _ (mem _ (mem_fm hp (List.mem_cons_of_mem _ (List.mem_map.mpr ⟨f, by simpa using hkf, rfl⟩)))))⟩
  · have h1 := List.all_eq_true.mp k4 k (by simpa using hk)
    cases e : L.itd.find? (fun i => i.k == k) with
    | none => rw [e] at h1; cases h1
    | some i =>
      rw [e] at h1
      have h1 : (i.ok && i.di.dfl.isEmpty && i.dl.dfl.isEmpty) = true := h1
      simp only [Bool.and_eq_true, List.isEmpty_iff] at h1
      obtain ⟨⟨ok, n1⟩, n2⟩ := h1
      have hi : i ∈ L.itd := List.mem_of_find?_eq_some e
      have mem : ∀ z ∈ [He.Fa.meth i.k "__iter__", .meth i.k "__len__", .cls i.k, .noat i.k i.g, .free "iter", .free "len"], z ∈ L.fa := fun z hz =>
        List.mem_append_right _ (List.mem_append_right _ (List.mem_append_right _ (List.mem_append_right _ (List.mem_append_right _ (List.mem_append_right _ (mem_fm hi hz))))))
      have h := ok
      unfold ItDef.ok at h
      simp only [Bool.and_eq_true, decide_eq_true_eq] at h
      obtain ⟨⟨⟨d1, d2⟩, a1⟩, a2⟩ := h
      unfold defB at d1 d2
      simp only [Bool.and_eq_true] at d1 d2
      have M1 := He.meth_ok (fct _ (mem (.meth i.k "__iter__") (by simp)))
      have M2 := He.meth_ok (fct _ (mem (.meth i.k "__len__") (by simp)))
      obtain ⟨fdI, FI⟩ := D.defs (d := i.di) (List.mem_append_right _ (mem_fm hi (by simp)))
      obtain ⟨fdL, FL⟩ := D.defs (d := i.dl) (List.mem_append_right _ (mem_fm hi (by simp)))
      have e1 : i.di.dvs K = [] := by unfold He.DefD.dvs; rw [n1]; rfl
      have e2 : i.dl.dvs K = [] := by unfold He.DefD.dvs; rw [n2]; rfl
      have f1 : He.fAd K i.di.at_ = He.ma K (He.ga K i.k) "__iter__" := by rw [a1]; rfl
      have f2 : He.fAd K i.dl.at_ = He.ma K (He.ga K i.k) "__len__" := by rw [a2]; rfl
      refine ⟨i, rfl, by rw [f1]; exact M1.at_, by rw [f1]; exact M1.fn, by rw [f2]; exact M2.at_, by rw [f2]; exact M2.fn, ⟨fdI, FI, ?_⟩, ⟨fdL, FL, ?_⟩, He.cls_ok (fct _ (mem (.cls i.k) (by simp))), He.noat_ok (fct _ (mem (.noat i.k i.g) (by simp))), He.free_ok X G (fct _ (mem (.free "iter") (by simp))), He.free_ok X G (fct _ (mem (.free "len") (by simp))), ok⟩
      · rw [e1] at FI
        exact binds_plain d1.1.1.2 FI
      · rw [e2] at FL
        exact binds_plain d2.1.1.2 FL
end
end Rf
end
section
namespace Rf
open PySem L2
def CXe (P : Program) : CXT := fun o H s E u s' => ∃ w, L2.CX P w o H s E u s'
theorem cxe_false {P : Program} {st : List PySem.Env} {e : Value} {s s' : Shared} {H : Hp} (h : CXe P st H s (fun _ _ _ => False) e s') : False := let ⟨_, h⟩ := h; cx_false h
theorem fn_ecx {P : Program} {w : World} {K : Frg} {mg : Str → Option Value} {base : Heap} {k : Nat} {f : Addr} {fd : FuncData} {ps : List Str} {sp : Sp} (F : FnOk P w K mg base (L2.CX P w) k f fd ps sp) : FnOk P w K mg base (CXe P) k f fd ps sp :=
  ⟨F.len, fun A outer s H args us vs Q E hr he hb hv hs => codeAny_mono (F.run A outer s H args us vs Q E hr he hb hv hs) fun r s' hq => by
    cases r with
    | error e => exact ⟨w, hq⟩
    | ok fl => cases fl <;> exact hq⟩
def clsBody : Stmt → List Stmt
  | .ClassDef _ _ _ b _ _ _ _ _ _ _ => b
  | _ => []
def Law.hk (L : Law) (n : Nat) : PySem.W.Hook := He.hookX n L.fa L.fnD [] [] L.ex
def Law.ob (L : Law) (n : Nat) (s : PySem.W.SharedT) : He.AlX := He.obsX n L.fa L.fnD [] [] L.ex (HandSHeadRun.getT s)
theorem Law.ob_eq (L : Law) (n : Nat) (s : PySem.W.SharedT) : L.ob n s = (L.hk n).obs s.abs := He.obsX_eq (HandSHeadRun.getT_eq s)
/-- the law's run, as the plain law tells it -/
def Law.good (L : Law) (d : Nat) (df : Df) : Prop := ∀ ns : List Int, ns.length ≤ 63 → ∃ Ω, L.g d df [.scr ns] [] = .ok (.bl true) Ω
structure Law.Ready (L : Law) (df : Df) : Prop where
  dfl : L.T.dfl = L.dflOf
  chk : L.chk = true
  bnd : ∀ df, df ∈ L.defs → BndOk df
  ok : ∀ df, df ∈ L.defs → df.ok L.T = true
  law : df ∈ L.defs
  at_ : df.dd.at_ = (("law" : Str), none)
  glo : L.T.fns.contains ("law" : Str) = true
  nodf : df.dd.dfl = []
  ps : ∃ x, df.ps = [x]
  pl : plainB df.dd.params df.ps = true
theorem Law.fin {L : Law} {df : Df} {d : Nat} (R : L.Ready df) (g : L.good d df) {P : Program} {w : World} {K : Frg} {h : Heap} {mg : Str → Option Value} {f : Addr} {x : Str} (hx : df.ps = [x]) (X : K.In h) (G : h.Ns mainGlobals mg) (hf : mg ("law" : Str) = some (.ref f))
    (S : He.SaysX L.fa L.fnD [] [] L.ex w h K) :
    ∃ (fd : FuncData) (sp : Sp), (∀ (s : Shared) (u : Value), BindsTo s fd ⟨[u], []⟩ [(x, u)]) ∧ (∀ (H : Hp) (a : Addr) (ns : List Int), ns.length ≤ 63 → Only H → SqL K H a (ns.map V.int) → sp [.ref a] H (fun v _ => v = .bl true) fun _ _ _ => False) ∧
      ∀ base : Heap, K.In base → base.Ns mainGlobals mg → FnOk P w K mg base (CXe P) (2 * d + 4) f fd [x] sp := by
  have F := Law.facts R.dfl R.chk R.bnd X G S
  obtain ⟨fd, F0⟩ := S.t.d.defs (d := df.dd) (List.mem_append_left _ (List.mem_map.mpr ⟨df, R.law, rfl⟩))
  have addr : He.fAd K df.dd.at_ = f := by
    have e := hf.symm.trans (He.glo_ok X G (S.t.d.facts (f := .glo "law") (List.mem_append_right _ (List.mem_append_left _ (List.mem_map.mpr ⟨"law", by simpa using R.glo, rfl⟩)))))
    rw [R.at_]
    cases e
    rfl
  have un : ∀ fd', FunD K df.dd.name df.dd.qual df.dd.params df.dd.body df.dd.scope (df.dd.dvs K) (df.dd.kws K) (He.fAd K df.dd.at_) fd' → fd' = fd := fun fd' F1 => by
    obtain ⟨oc, od, dV, kV, doc, pm, an, cdv, ct, osl, e1, lk, _⟩ := F0.ex
    obtain ⟨oc', od', dV', kV', doc', pm', an', cdv', ct', osl', e1', lk', _⟩ := F1.ex
    rw [lk] at lk'
    cases lk'
    rfl
  have e0 : df.dd.dvs K = [] := by unfold He.DefD.dvs; rw [R.nodf]; rfl
  obtain ⟨h1, h2, h3, h4, h5, h6⟩ := plainB_ok R.pl
  refine ⟨fd, spD K (L.g d df), fun s u => ?_, fun H a ns hl ho hs => ?_, fun base KB GB => ?_⟩
  · rw [e0] at F0
    have b := FunD.bindsA (ps := df.ps) F0 (fun kV doc pm an cdv ct us hl => bind_plain h1 h2 h3 h4 rfl h5 h6 hl) s [u] (by rw [hx]; rfl)
    rw [hx] at b
    exact b
  · obtain ⟨Ω, e⟩ := g ns hl
    refine ⟨⟨fun _ => 0, []⟩, [], [.scr ns], ⟨fun j k hj => ?_, fun k o e => ?_, fun a h => ?_, fun k hk => ?_⟩, Reps.one ?_, ?_⟩
    · exact absurd hj.lt (Nat.not_lt_zero _)
    · cases e
    · cases h
    · exact absurd hk.lt (Nat.not_lt_zero _)
    · simp only [Rep]
      refine ⟨a, rfl, hl, ?_⟩
      have ef : Fz H ⟨fun _ => 0, []⟩ [] = H := by
        funext c
        unfold Fz
        rw [if_neg (by unfold addrs addrs0; simp)]
      rw [ef]
      exact hs
    · rw [e]
      intro b H' μ' ex r
      simpa only [rD, Rep] using r
  · obtain ⟨fd', F1, K1, _⟩ := defs_ok (P := P) (w := w) (base := base) F R.ok d df R.law
    rw [un fd' F1, addr, hx] at K1
    exact fn_ecx K1
end Rf
end
section
namespace Rf.C
open PySem L2
def s_is_integer : SL := (.cons (.ret (.and (.cons (.isi (.var 0) [.int]) (.cons (.not (.isi (.var 0) [.bool])) .nil)))) .nil)
def s_is_list : SL := (.cons (.ret (.isi (.var 0) [.list, .tuple])) .nil)
def s_is_name : SL := (.cons (.ife (.or (.cons (.not (.isi (.var 0) [.str])) (.cons (.not (.chn .LtE .LtE (.int 1) (.bi .len (.cons (.var 0) .nil)) (.int 8))) (.cons (.cmp .NotIn (.idx (.var 0) (.int 0)) (.glo "SIGNS")) .nil)))) (.cons (.ret (.bl false)) .nil) .nil) (.cons (.ret (.bi .all (.cons (.lc [1] (.nm 1) (.val (.var 0)) .none (.cmp .In (.var 1) (.op2 .Add (.glo "SIGNS") (.glo "FIGURES")))) .nil))) .nil))
def s_is_among : SL := (.cons (.ret (.and (.cons (.isi (.var 0) [.str]) (.cons (.cmp .In (.var 0) (.var 1)) .nil)))) .nil)
def s_rising : SL := (.cons (.ret (.sset (.lc [1] (.nm 1) (.val (.var 0)) .none (.bi .str (.cons (.var 1) .nil))))) .nil)
def s_lowest : SL := (.cons (.par [3, 4] (.cons (.bi .abs (.cons (.var 0) .nil)) (.cons (.bi .abs (.cons (.var 1) .nil)) .nil))) (.cons (.whl (.cmp .Gt (.var 4) (.int 0)) (.cons (.par [3, 4] (.cons (.var 4) (.cons (.op2 .Mod (.var 3) (.var 4)) .nil))) .nil)) (.cons (.asg (.nm 2) (.ite (.cmp .Gt (.var 1) (.int 0)) (.int 1) (.neg (.int 1)))) (.cons (.ret (.tup (.cons (.op2 .FloorDiv (.op2 .Mult (.var 2) (.var 0)) (.var 3)) (.cons (.op2 .FloorDiv (.op2 .Mult (.var 2) (.var 1)) (.var 3)) .nil)))) .nil))))
def s_minus : SL := (.cons (.ret (.call "lowest" (.cons (.op2 .Sub (.op2 .Mult (.idx (.var 0) (.int 0)) (.idx (.var 1) (.int 1))) (.op2 .Mult (.idx (.var 1) (.int 0)) (.idx (.var 0) (.int 1)))) (.cons (.op2 .Mult (.idx (.var 0) (.int 1)) (.idx (.var 1) (.int 1))) .nil)) 0)) .nil)
def s_times : SL := (.cons (.ret (.call "lowest" (.cons (.op2 .Mult (.idx (.var 0) (.int 0)) (.idx (.var 1) (.int 0))) (.cons (.op2 .Mult (.idx (.var 0) (.int 1)) (.idx (.var 1) (.int 1))) .nil)) 0)) .nil)
def s_fraction_of : SL := (.cons (.ife (.call "is_integer" (.cons (.var 0) .nil) 0) (.cons (.ret (.tup (.cons (.var 0) (.cons (.int 1) .nil)))) .nil) .nil) (.cons (.ife (.or (.cons (.not (.call "is_list" (.cons (.var 0) .nil) 0)) (.cons (.cmp .NotEq (.bi .len (.cons (.var 0) .nil)) (.int 2)) (.cons (.not (.bi .all (.cons (.lc [1] (.nm 1) (.val (.var 0)) .none (.call "is_integer" (.cons (.var 1) .nil) 0)) .nil))) .nil)))) (.cons (.ret .non) .nil) .nil) (.cons (.ret (.ite (.cmp .Gt (.idx (.var 0) (.int 1)) (.int 0)) (.call "lowest" (.cons (.idx (.var 0) (.int 0)) (.cons (.idx (.var 0) (.int 1)) .nil)) 0) .non)) .nil)))
def s_size_of : SL := (.cons (.asg (.nm 1) (.call "fraction_of" (.cons (.var 0) .nil) 0)) (.cons (.ret (.ite (.or (.cons (.isn (.var 1)) (.cons (.cmp .Lt (.idx (.var 1) (.int 0)) (.int 0)) .nil))) .non (.var 1))) .nil))
def s_share_of : SL := (.cons (.asg (.nm 1) (.call "size_of" (.cons (.var 0) .nil) 0)) (.cons (.ret (.ite (.or (.cons (.isn (.var 1)) (.cons (.cmp .Gt (.idx (.var 1) (.int 0)) (.idx (.var 1) (.int 1))) .nil))) .non (.var 1))) .nil))
def s_checked_fault : SL := (.cons (.ife (.not (.call "is_among" (.cons (.var 0) (.cons (.var 1) .nil)) 0)) (.cons .nope .nil) .nil) (.cons (.ret (.var 0)) .nil))
def s_checked_names : SL := (.cons (.for (.nm 2) (.val (.var 0)) (.cons (.expr (.call "checked_fault" (.cons (.var 2) (.cons (.var 1) .nil)) 0)) .nil)) (.cons (.ret (.call "rising" (.cons (.var 0) .nil) 0)) .nil))
def s_checked_links : SL := (.cons (.ife (.not (.call "is_list" (.cons (.var 0) .nil) 0)) (.cons .nope .nil) .nil) (.cons (.asg (.nm 2) (.newl .nil)) (.cons (.for (.tp [3, 4]) (.enum (.var 0)) (.cons (.ife (.or (.cons (.not (.call "is_list" (.cons (.var 4) .nil) 0)) (.cons (.cmp .NotEq (.bi .len (.cons (.var 4) .nil)) (.int 2)) (.cons (.not (.bi .all (.cons (.lc [5] (.nm 5) (.val (.var 4)) .none (.call "is_among" (.cons (.var 5) (.cons (.var 1) .nil)) 0)) .nil))) .nil)))) (.cons .nope .nil) .nil) (.cons (.ife (.cmp .Eq (.idx (.var 4) (.int 0)) (.idx (.var 4) (.int 1))) (.cons .nope .nil) .nil) (.cons (.expr (.meth (.var 2) .append (.cons (.bi .tuple (.cons (.call "rising" (.cons (.var 4) .nil) 0) .nil)) .nil))) .nil)))) (.cons (.ret (.sset (.var 2))) .nil))))
def s_partners : SL := (.cons (.ret (.call "rising" (.cons (.lc2 [2, 3] [3] (.nm 2) (.val (.var 0)) (.nm 3) (.val (.var 2)) (.some (.and (.cons (.cmp .In (.var 1) (.var 2)) (.cons (.cmp .NotEq (.var 3) (.var 1)) .nil)))) (.var 3)) .nil) 0)) .nil)
def s_System___init__ : SL := (.cons (.for (.nm 3) (.val (.var 1)) (.cons (.ife (.or (.cons (.not (.call "is_name" (.cons (.var 3) .nil) 0)) (.cons (.isn (.call "share_of" (.cons (.idx (.var 1) (.var 3)) .nil) 0)) .nil))) (.cons .nope .nil) .nil) .nil)) (.cons (.fset (.var 0) "worths" (.dc [3] (.nm 3) (.val (.call "rising" (.cons (.bi .list (.cons (.var 1) .nil)) .nil) 0)) .none (.var 3) (.call "share_of" (.cons (.idx (.var 1) (.var 3)) .nil) 0))) (.cons (.fset (.var 0) "ties" (.call "checked_links" (.cons (.var 2) (.cons (.fld (.var 0) "worths") .nil)) 0)) (.cons (.fset (.var 0) "beside" (.dc [3] (.nm 3) (.val (.fld (.var 0) "worths")) .none (.var 3) (.call "partners" (.cons (.fld (.var 0) "ties") (.cons (.var 3) .nil)) 0))) .nil))))
def s_sum_over : SL := (.cons (.ife (.cmp .Eq (.var 1) (.tup .nil)) (.cons (.ret (.glo "ONE")) .nil) .nil) (.cons (.ife (.cmp .NotIn (.var 1) (.var 2)) (.cons (.asg (.tp [5, 6]) (.tup (.cons (.idx (.var 1) (.int 0)) (.cons (.slc (.var 1) (.some (.int 1)) .none) .nil)))) (.cons (.asg (.nm 3) (.bi .tuple (.cons (.lc [7] (.nm 7) (.val (.var 6)) (.some (.cmp .NotIn (.var 7) (.idx (.fld (.var 0) "beside") (.var 5)))) (.var 7)) .nil))) (.cons (.asg (.nm 4) (.call "times" (.cons (.idx (.fld (.var 0) "worths") (.var 5)) (.cons (.call "sum_over" (.cons (.var 0) (.cons (.var 3) (.cons (.var 2) .nil))) 0) .nil)) 0)) (.cons (.iset (.var 2) (.var 1) (.call "minus" (.cons (.call "sum_over" (.cons (.var 0) (.cons (.var 6) (.cons (.var 2) .nil))) 0) (.cons (.var 4) .nil)) 0)) .nil)))) .nil) (.cons (.ret (.idx (.var 2) (.var 1))) .nil)))
def s_set_among : SL := (.cons (.ret (.bi .tuple (.cons (.call "checked_names" (.cons (.ite (.isn (.var 1)) (.lins (.var 0) "System") (.var 1)) (.cons (.fld (.var 0) "worths") .nil)) 0) .nil))) .nil)
def s_free_sum : SL := (.cons (.ret (.call "sum_over" (.cons (.var 0) (.cons (.call "set_among" (.cons (.var 0) (.cons (.var 1) .nil)) 0) (.cons .newt .nil))) 0)) .nil)
def s__law_spring : SL := (.cons (.asg (.nm 1) (.lc [2] (.nm 2) (.val (.var 0)) (.some (.cmp .Lt (.var 2) (.op2 .Pow (.int 10) (.int 18)))) (.bi .int (.cons (.var 2) .nil)))) (.cons (.ret (.newl (.cons (.newc [2] (.nm 2) (.val (.var 0)) (.some (.cmp .GtE (.var 2) (.op2 .Pow (.int 10) (.int 18)))) (.bi .int (.cons (.var 2) .nil))) (.cons (.int 0) (.cons (.var 1) (.cons (.int 0) .nil)))))) .nil))
def s__law_take : SL := (.cons (.iset (.var 0) (.int 3) (.op2 .Add (.idx (.var 0) (.int 3)) (.int 1))) (.cons (.ife (.and (.cons (.cmp .Eq (.idx (.var 0) (.int 1)) (.int 0)) (.cons (.cmp .NotEq (.idx (.var 0) (.int 0)) (.lst .nil)) .nil))) (.cons (.iset (.var 0) (.int 1) (.meth (.idx (.var 0) (.int 0)) .popi (.cons (.int 0) .nil))) .nil) .nil) (.cons (.ife (.cmp .Gt (.idx (.var 0) (.int 1)) (.int 0)) (.cons (.asg (.nm 5) (.op2 .Mod (.bi .int (.cons (.idx (.var 0) (.int 1)) .nil)) (.var 1))) (.cons (.iset (.var 0) (.int 1) (.op2 .FloorDiv (.idx (.var 0) (.int 1)) (.var 1))) (.cons (.ret (.var 5)) .nil))) .nil) (.cons (.asg (.nm 2) (.ite (.cmp .Eq (.idx (.var 0) (.int 2)) (.lst .nil)) (.op2 .Mult (.int 13) (.idx (.var 0) (.int 3))) (.idx (.idx (.var 0) (.int 2)) (.op2 .Mod (.bi .int (.cons (.idx (.var 0) (.int 3)) .nil)) (.bi .len (.cons (.idx (.var 0) (.int 2)) .nil)))))) (.cons (.asg (.nm 3) (.op2 .Mod (.op2 .Pow (.bi .int (.cons (.op2 .Add (.op2 .Add (.op2 .Mod (.bi .int (.cons (.var 2) .nil)) (.int 1000003)) (.op2 .Mult (.int 7907) (.idx (.var 0) (.int 3)))) (.int 11)) .nil)) (.int 5)) (.int 2147483629))) (.cons (.asg (.nm 4) (.op2 .Mod (.bi .int (.cons (.op2 .Add (.op2 .Mult (.var 3) (.int 48271)) (.op2 .Mult (.int 6007) (.idx (.var 0) (.int 3)))) .nil)) (.int 2147483587))) (.cons (.ret (.op2 .Mod (.op2 .FloorDiv (.op2 .Mod (.bi .int (.cons (.op2 .Add (.op2 .Mult (.var 4) (.int 69621)) (.int 17)) .nil)) (.int 1000000007)) (.int 5)) (.var 1))) .nil)))))))
def s__law_one : SL := (.cons (.ret (.idx (.var 1) (.call "_law_take" (.cons (.var 0) (.cons (.bi .len (.cons (.var 1) .nil)) .nil)) 0))) .nil)
def s__law_mixed : SL := (.cons (.par [2, 3] (.cons (.newb (.var 1)) (.cons (.newl .nil) .nil))) (.cons (.whl (.cmp .NotEq (.var 2) (.lst .nil)) (.cons (.expr (.meth (.var 3) .append (.cons (.meth (.var 2) .popi (.cons (.call "_law_take" (.cons (.var 0) (.cons (.bi .len (.cons (.var 2) .nil)) .nil)) 0) .nil)) .nil))) .nil)) (.cons (.ret (.frz (.var 3))) .nil)))
def s__law_few : SL := (.cons (.ret (.lc [2] (.nm 2) (.val (.var 1)) (.some (.cmp .Eq (.call "_law_take" (.cons (.var 0) (.cons (.int 2) .nil)) 0) (.int 0))) (.var 2))) .nil)
def s__law_loose : SL := (.cons (.ret (.ite (.cmp .Eq (.call "_law_take" (.cons (.var 0) (.cons (.int 2) .nil)) 0) (.int 0)) (.bi .list (.cons (.var 1) .nil)) (.bi .tuple (.cons (.var 1) .nil)))) .nil)
def s__law_rising : SL := (.cons (.ret (.sset (.lc [1] (.nm 1) (.val (.var 0)) .none (.bi .str (.cons (.var 1) .nil))))) .nil)
def s__law_same : SL := (.cons (.ife (.isi (.var 1) [.dict]) (.cons (.ife (.or (.cons (.not (.isi (.var 0) [.dict])) (.cons (.cmp .NotEq (.bi .len (.cons (.var 0) .nil)) (.bi .len (.cons (.var 1) .nil))) .nil))) (.cons (.ret (.bl false)) .nil) .nil) (.cons (.ret (.bi .all (.cons (.lc [3] (.nm 3) (.val (.var 1)) .none (.and (.cons (.cmp .In (.var 3) (.var 0)) (.cons (.call "_law_same" (.cons (.idx (.var 0) (.var 3)) (.cons (.idx (.var 1) (.var 3)) .nil)) 0) .nil)))) .nil))) .nil)) .nil) (.cons (.ife (.isi (.var 1) [.list, .tuple]) (.cons (.ife (.cmp .NotEq (.isi (.var 0) [.list]) (.isi (.var 1) [.list])) (.cons (.ret (.bl false)) .nil) .nil) (.cons (.ife (.cmp .NotEq (.isi (.var 0) [.tuple]) (.isi (.var 1) [.tuple])) (.cons (.ret (.bl false)) .nil) .nil) (.cons (.ret (.and (.cons (.cmp .Eq (.bi .len (.cons (.var 0) .nil)) (.bi .len (.cons (.var 1) .nil))) (.cons (.bi .all (.cons (.lc [4, 5] (.tp [4, 5]) (.zip (.var 0) (.var 1)) .none (.call "_law_same" (.cons (.var 4) (.cons (.var 5) .nil)) 0)) .nil)) .nil)))) .nil))) .nil) (.cons (.ife (.isi (.var 1) [.int]) (.cons (.asg (.nm 2) (.cmp .Eq (.isi (.var 0) [.bool]) (.isi (.var 1) [.bool]))) (.cons (.ret (.and (.cons (.isi (.var 0) [.int]) (.cons (.var 2) (.cons (.cmp .Eq (.var 0) (.var 1)) .nil))))) .nil)) .nil) (.cons (.ret (.and (.cons (.not (.isi (.var 0) [.int, .list, .tuple, .dict])) (.cons (.cmp .Eq (.var 0) (.var 1)) .nil)))) .nil))))
def s__law_lowest : SL := (.cons (.par [2, 3] (.cons (.bi .abs (.cons (.var 0) .nil)) (.cons (.var 1) .nil))) (.cons (.whl (.cmp .Gt (.var 3) (.int 0)) (.cons (.par [2, 3] (.cons (.var 3) (.cons (.op2 .Mod (.var 2) (.var 3)) .nil))) .nil)) (.cons (.ret (.tup (.cons (.op2 .FloorDiv (.var 0) (.var 2)) (.cons (.op2 .FloorDiv (.var 1) (.var 2)) .nil)))) .nil)))
def s__law_plus : SL := (.cons (.ret (.call "_law_lowest" (.cons (.op2 .Add (.op2 .Mult (.idx (.var 0) (.int 0)) (.idx (.var 1) (.int 1))) (.op2 .Mult (.idx (.var 1) (.int 0)) (.idx (.var 0) (.int 1)))) (.cons (.op2 .Mult (.idx (.var 0) (.int 1)) (.idx (.var 1) (.int 1))) .nil)) 0)) .nil)
def s__law_minus : SL := (.cons (.ret (.call "_law_lowest" (.cons (.op2 .Sub (.op2 .Mult (.idx (.var 0) (.int 0)) (.idx (.var 1) (.int 1))) (.op2 .Mult (.idx (.var 1) (.int 0)) (.idx (.var 0) (.int 1)))) (.cons (.op2 .Mult (.idx (.var 0) (.int 1)) (.idx (.var 1) (.int 1))) .nil)) 0)) .nil)
def s__law_times : SL := (.cons (.ret (.call "_law_lowest" (.cons (.op2 .Mult (.idx (.var 0) (.int 0)) (.idx (.var 1) (.int 0))) (.cons (.op2 .Mult (.idx (.var 0) (.int 1)) (.idx (.var 1) (.int 1))) .nil)) 0)) .nil)
def s__law_product : SL := (.cons (.asg (.nm 1) (.tup (.cons (.int 1) (.cons (.int 1) .nil)))) (.cons (.for (.nm 2) (.val (.var 0)) (.cons (.asg (.nm 1) (.call "_law_times" (.cons (.var 1) (.cons (.var 2) .nil)) 0)) .nil)) (.cons (.ret (.var 1)) .nil)))
def s__law_share : SL := (.cons (.ife (.cmp .Eq (.var 1) (.str "any")) (.cons (.asg (.nm 2) (.op2 .Add (.int 1) (.call "_law_take" (.cons (.var 0) (.cons (.int 12) .nil)) 0))) (.cons (.ret (.call "_law_lowest" (.cons (.call "_law_take" (.cons (.var 0) (.cons (.op2 .Add (.var 2) (.int 1)) .nil)) 0) (.cons (.var 2) .nil)) 0)) .nil)) .nil) (.cons (.ife (.cmp .Eq (.var 1) (.str "small")) (.cons (.ret (.call "_law_lowest" (.cons (.call "_law_take" (.cons (.var 0) (.cons (.int 4) .nil)) 0) (.cons (.op2 .Add (.int 12) (.call "_law_take" (.cons (.var 0) (.cons (.int 12) .nil)) 0)) .nil)) 0)) .nil) .nil) (.cons (.ret (.call "_law_one" (.cons (.var 0) (.cons (.lst (.cons (.tup (.cons (.int 0) (.cons (.int 1) .nil))) (.cons (.tup (.cons (.int 1) (.cons (.int 4) .nil))) (.cons (.tup (.cons (.int 1) (.cons (.int 5) .nil))) (.cons (.tup (.cons (.int 1) (.cons (.int 6) .nil))) (.cons (.tup (.cons (.int 2) (.cons (.int 9) .nil))) (.cons (.tup (.cons (.int 1) (.cons (.int 8) .nil))) (.cons (.tup (.cons (.int 1) (.cons (.int 3) .nil))) (.cons (.tup (.cons (.int 3) (.cons (.int 10) .nil))) (.cons (.tup (.cons (.int 1) (.cons (.int 2) .nil))) (.cons (.tup (.cons (.int 1) (.cons (.int 1) .nil))) .nil))))))))))) .nil)) 0)) .nil)))
def s__law_handed : SL := (.cons (.asg (.tp [4, 5]) (.var 1)) (.cons (.asg (.nm 2) (.op2 .Add (.int 1) (.call "_law_take" (.cons (.var 0) (.cons (.int 4) .nil)) 0))) (.cons (.asg (.nm 3) (.op2 .Add (.lst (.cons (.tup (.cons (.var 4) (.cons (.var 5) .nil))) (.cons (.lst (.cons (.var 4) (.cons (.var 5) .nil))) (.cons (.tup (.cons (.op2 .Mult (.var 2) (.var 4)) (.cons (.op2 .Mult (.var 2) (.var 5)) .nil))) .nil)))) (.op2 .Mult (.lst (.cons (.var 4) .nil)) (.bi .int (.cons (.cmp .Eq (.var 5) (.int 1)) .nil))))) (.cons (.ret (.call "_law_one" (.cons (.var 0) (.cons (.var 3) .nil)) 0)) .nil))))
def s__law_name : SL := (.cons (.asg (.nm 1) (.lst (.cons (.str "fault") (.cons (.str "link") (.cons (.str "world") (.cons (.str "system") (.cons (.str "f0") (.cons (.str "f1") (.cons (.str "f10") .nil))))))))) (.cons (.asg (.nm 1) (.op2 .Add (.var 1) (.lst (.cons (.str "none") (.cons (.str "a") (.cons (.str "b") (.cons (.str "a1") (.cons (.str "a9") (.cons (.str "a10") (.cons (.str "zzzzzzz9") .nil)))))))))) (.cons (.ife (.cmp .Eq (.call "_law_take" (.cons (.var 0) (.cons (.int 2) .nil)) 0) (.int 0)) (.cons (.ret (.call "_law_one" (.cons (.var 0) (.cons (.var 1) .nil)) 0)) .nil) .nil) (.cons (.asg (.tp [3, 4]) (.tup (.cons (.str "abcdefghijklmnopqrstuvwxyz") (.cons (.str "0123456789") .nil)))) (.cons (.asg (.nm 2) (.idx (.lst (.cons (.int 1) (.cons (.int 1) (.cons (.int 2) (.cons (.int 3) (.cons (.int 8) .nil)))))) (.call "_law_take" (.cons (.var 0) (.cons (.int 5) .nil)) 0))) (.cons (.ret (.op2 .Add (.idx (.var 3) (.call "_law_take" (.cons (.var 0) (.cons (.int 26) .nil)) 0)) (.meth (.str "") .join (.cons (.lc [5] (.nm 5) (.rng (.op2 .Sub (.var 2) (.int 1))) .none (.call "_law_one" (.cons (.var 0) (.cons (.op2 .Add (.var 3) (.var 4)) .nil)) 0)) .nil)))) .nil))))))
def s__law_names : SL := (.cons (.asg (.nm 2) (.newl .nil)) (.cons (.for (.nm 3) (.rng (.var 1)) (.cons (.asg (.nm 4) (.op2 .Add (.lst (.cons (.call "_law_name" (.cons (.var 0) .nil) 0) .nil)) (.lc [5] (.nm 5) (.val (.str "abcdefghijklmnop")) .none (.op2 .Add (.var 5) (.str "q7"))))) (.cons (.expr (.meth (.var 2) .append (.cons (.idx (.lc [6] (.nm 6) (.val (.var 4)) (.some (.cmp .NotIn (.var 6) (.var 2))) (.var 6)) (.int 0)) .nil))) .nil))) (.cons (.ret (.frz (.var 2))) .nil)))
def s__law_links : SL := (.cons (.asg (.tp [4, 5]) (.tup (.cons (.newl .nil) (.cons (.call "_law_take" (.cons (.var 0) (.cons (.int 6) .nil)) 0) .nil)))) (.cons (.for (.nm 3) (.val (.var 1)) (.cons (.expr (.meth (.var 4) .extend (.cons (.lc [9] (.nm 9) (.val (.var 1)) (.some (.cmp .Lt (.var 3) (.var 9))) (.tup (.cons (.var 3) (.cons (.var 9) .nil)))) .nil))) .nil)) (.cons (.ife (.cmp .Eq (.var 5) (.int 0)) (.cons (.ret (.slc (.var 4) .none (.some (.var 2)))) .nil) .nil) (.cons (.ife (.cmp .Lt (.var 5) (.int 3)) (.cons (.asg (.nm 6) (.call "_law_mixed" (.cons (.var 0) (.cons (.var 1) .nil)) 0)) (.cons (.asg (.nm 7) (.lzip (.var 6) (.slc (.var 6) (.some (.int 1)) .none))) (.cons (.asg (.nm 7) (.op2 .Add (.var 7) (.op2 .Mult (.lzip (.slc (.var 6) (.some (.neg (.int 1))) .none) (.slc (.var 6) .none (.some (.int 1)))) (.bi .int (.cons (.and (.cons (.cmp .Eq (.var 5) (.int 2)) (.cons (.cmp .Gt (.bi .len (.cons (.var 6) .nil)) (.int 2)) .nil))) .nil))))) (.cons (.ret (.slc (.bi .sorted (.cons (.lc [8] (.nm 8) (.val (.var 7)) .none (.bi .tuple (.cons (.call "_law_rising" (.cons (.var 8) .nil) 0) .nil))) .nil)) .none (.some (.var 2)))) .nil)))) .nil) (.cons (.ret (.slc (.lc [8] (.nm 8) (.val (.frz (.var 4))) (.some (.cmp .Eq (.call "_law_take" (.cons (.var 0) (.cons (.op2 .Sub (.var 5) (.int 1)) .nil)) 0) (.int 0))) (.var 8)) .none (.some (.var 2)))) .nil)))))
def s__law_house : SL := (.cons (.asg (.nm 3) (.call "_law_rising" (.cons (.call "_law_names" (.cons (.var 0) (.cons (.var 1) .nil)) 0) .nil) 0)) (.cons (.asg (.nm 4) (.bi .dict (.cons (.lc [5] (.nm 5) (.val (.var 3)) .none (.tup (.cons (.var 5) (.cons (.call "_law_share" (.cons (.var 0) (.cons (.var 2) .nil)) 0) .nil)))) .nil))) (.cons (.ret (.tup (.cons (.var 4) (.cons (.call "_law_links" (.cons (.var 0) (.cons (.var 3) (.cons (.int 40) .nil))) 0) .nil)))) .nil)))
def s__law_made : SL := (.cons (.asg (.nm 3) (.call "_law_mixed" (.cons (.var 0) (.cons (.bi .list (.cons (.var 1) .nil)) .nil)) 0)) (.cons (.asg (.nm 4) (.newl .nil)) (.cons (.for (.tp [5, 6]) (.val (.call "_law_mixed" (.cons (.var 0) (.cons (.op2 .Add (.bi .list (.cons (.var 2) .nil)) (.slc (.bi .list (.cons (.var 2) .nil)) .none (.some (.call "_law_take" (.cons (.var 0) (.cons (.int 2) .nil)) 0)))) .nil)) 0)) (.cons (.expr (.meth (.var 4) .append (.cons (.call "_law_loose" (.cons (.var 0) (.cons (.call "_law_mixed" (.cons (.var 0) (.cons (.lst (.cons (.var 5) (.cons (.var 6) .nil))) .nil)) 0) .nil)) 0) .nil))) .nil)) (.cons (.ret (.mk "System" "System.__init__" (.cons (.bi .dict (.cons (.lc [7] (.nm 7) (.val (.var 3)) .none (.tup (.cons (.var 7) (.cons (.call "_law_handed" (.cons (.var 0) (.cons (.idx (.var 1) (.var 7)) .nil)) 0) .nil)))) .nil)) (.cons (.call "_law_loose" (.cons (.var 0) (.cons (.frz (.var 4)) .nil)) 0) .nil)) 1)) .nil))))
def s__law_parts : SL := (.cons (.asg (.nm 1) (.lst (.cons (.tup .nil) .nil))) (.cons (.for (.nm 2) (.val (.var 0)) (.cons (.asg (.nm 1) (.op2 .Add (.var 1) (.lc [5] (.nm 5) (.val (.var 1)) .none (.op2 .Add (.var 5) (.tup (.cons (.var 2) .nil)))))) .nil)) (.cons (.asg (.nm 3) (.newl .nil)) (.cons (.for (.nm 4) (.rng (.op2 .Add (.bi .len (.cons (.var 0) .nil)) (.int 1))) (.cons (.expr (.meth (.var 3) .extend (.cons (.bi .sorted (.cons (.lc [5] (.nm 5) (.val (.var 1)) (.some (.cmp .Eq (.bi .len (.cons (.var 5) .nil)) (.var 4))) (.var 5)) .nil)) .nil))) .nil)) (.cons (.ret (.frz (.var 3))) .nil)))))
def s__law_is_free : SL := (.cons (.ret (.not (.bi .any (.cons (.lc [2, 3] (.tp [2, 3]) (.val (.var 0)) .none (.and (.cons (.cmp .In (.var 2) (.var 1)) (.cons (.cmp .In (.var 3) (.var 1)) .nil)))) .nil)))) .nil)
def s__law_free_sum : SL := (.cons (.asg (.nm 3) (.tup (.cons (.int 0) (.cons (.int 1) .nil)))) (.cons (.for (.nm 4) (.val (.call "_law_parts" (.cons (.bi .list (.cons (.var 2) .nil)) .nil) 0)) (.cons (.ife (.call "_law_is_free" (.cons (.var 1) (.cons (.var 4) .nil)) 0) (.cons (.asg (.nm 5) (.call "_law_product" (.cons (.lc [6] (.nm 6) (.val (.var 4)) .none (.idx (.var 0) (.var 6))) .nil) 0)) (.cons (.asg (.nm 3) (.ite (.cmp .Eq (.op2 .Mod (.bi .len (.cons (.var 4) .nil)) (.int 2)) (.int 0)) (.call "_law_plus" (.cons (.var 3) (.cons (.var 5) .nil)) 0) (.call "_law_minus" (.cons (.var 3) (.cons (.var 5) .nil)) 0))) .nil)) .nil) .nil)) (.cons (.ret (.var 3)) .nil)))
end Rf.C
end
section
namespace Rf.C
open PySem L2
def s_ordered : SL := (.cons (.asg (.nm 1) (.newl .nil)) (.cons (.for (.nm 2) (.val (.sset (.lc [3] (.nm 3) (.val (.var 0)) .none (.bi .len (.cons (.var 3) .nil))))) (.cons (.expr (.meth (.var 1) .extend (.cons (.bi .sorted (.cons (.lc [3] (.nm 3) (.val (.var 0)) (.some (.cmp .Eq (.bi .len (.cons (.var 3) .nil)) (.var 2))) (.var 3)) .nil)) .nil))) .nil)) (.cons (.ret (.frz (.var 1))) .nil)))
def s_parts_of : SL := (.cons (.asg (.nm 1) (.lst (.cons (.tup .nil) .nil))) (.cons (.for (.nm 2) (.val (.var 0)) (.cons (.asg (.nm 1) (.op2 .Add (.var 1) (.lc [3] (.nm 3) (.val (.var 1)) .none (.op2 .Add (.var 3) (.tup (.cons (.var 2) .nil)))))) .nil)) (.cons (.ret (.call "ordered" (.cons (.var 1) .nil) 0)) .nil)))
def s_is_less : SL := (.cons (.ret (.cmp .Lt (.op2 .Mult (.idx (.var 0) (.int 0)) (.idx (.var 1) (.int 1))) (.op2 .Mult (.idx (.var 1) (.int 0)) (.idx (.var 0) (.int 1))))) .nil)
def s_System_shares : SL := (.cons (.ret (.bi .dict (.cons (.fld (.var 0) "worths") .nil))) .nil)
def s_System_links : SL := (.cons (.ret (.bi .list (.cons (.fld (.var 0) "ties") .nil))) .nil)
def s_first_unsafe : SL := (.cons (.asg (.nm 2) .newt) (.cons (.for (.nm 3) (.val (.call "parts_of" (.cons (.var 1) .nil) 0)) (.cons (.ife (.not (.call "is_less" (.cons (.glo "ZERO") (.cons (.call "sum_over" (.cons (.var 0) (.cons (.var 3) (.cons (.var 2) .nil))) 0) .nil)) 0)) (.cons (.ret (.var 3)) .nil) .nil) .nil)) (.cons (.ret .non) .nil)))
def s_is_safe : SL := (.cons (.ret (.isn (.call "first_unsafe" (.cons (.var 0) (.cons (.call "set_among" (.cons (.var 0) (.cons (.var 1) .nil)) 0) .nil)) 0))) .nil)
def s_least_chance : SL := (.cons (.asg (.nm 2) (.call "set_among" (.cons (.var 0) (.cons (.var 1) .nil)) 0)) (.cons (.ret (.ite (.isn (.call "first_unsafe" (.cons (.var 0) (.cons (.var 2) .nil)) 0)) (.call "sum_over" (.cons (.var 0) (.cons (.var 2) (.cons .newt .nil))) 0) (.glo "ZERO"))) .nil))
def s__law_sums : SL := (.cons (.ret (.bi .dict (.cons (.lc [2] (.nm 2) (.val (.call "_law_parts" (.cons (.call "_law_rising" (.cons (.var 0) .nil) 0) .nil) 0)) .none (.tup (.cons (.var 2) (.cons (.call "_law_free_sum" (.cons (.var 0) (.cons (.var 1) (.cons (.var 2) .nil))) 0) .nil)))) .nil))) .nil)
def s__law_lies : SL := (.cons (.ret (.bi .all (.cons (.lc [2] (.nm 2) (.val (.var 0)) .none (.cmp .In (.var 2) (.var 1))) .nil))) .nil)
def s__law_least : SL := (.cons (.ife (.bi .all (.cons (.lc [2] (.nm 2) (.val (.var 0)) (.some (.call "_law_lies" (.cons (.var 2) (.cons (.var 1) .nil)) 0)) (.cmp .Gt (.idx (.idx (.var 0) (.var 2)) (.int 0)) (.int 0))) .nil)) (.cons (.ret (.idx (.var 0) (.bi .tuple (.cons (.var 1) .nil)))) .nil) .nil) (.cons (.ret (.tup (.cons (.int 0) (.cons (.int 1) .nil)))) .nil))
end Rf.C
end
section
namespace Rf.K15
open PySem L2
def top (i : Nat) : Stmt := PySem.Challenge.pw_linkedfaults_k15_whole_least_chances.main.body.getD i (.Pass ⟨0, 0, 0, 0⟩)
def inn (i j : Nat) : Stmt := (clsBody (top i)).getD j (.Pass ⟨0, 0, 0, 0⟩)
def f_is_integer : Df := ⟨"is_integer", ["thing"], ["thing"], Rf.C.s_is_integer, [], ⟨("is_integer", none), "is_integer", "is_integer", defArgs (top 10), defBody (top 10), defScope (top 10), [], []⟩⟩
def f_is_list : Df := ⟨"is_list", ["thing"], ["thing"], Rf.C.s_is_list, [], ⟨("is_list", none), "is_list", "is_list", defArgs (top 11), defBody (top 11), defScope (top 11), [], []⟩⟩
def f_is_name : Df := ⟨"is_name", ["thing"], ["thing", "sign"], Rf.C.s_is_name, [], ⟨("is_name", none), "is_name", "is_name", defArgs (top 12), defBody (top 12), defScope (top 12), [], []⟩⟩
def f_is_among : Df := ⟨"is_among", ["thing", "names"], ["thing", "names"], Rf.C.s_is_among, [], ⟨("is_among", none), "is_among", "is_among", defArgs (top 13), defBody (top 13), defScope (top 13), [], []⟩⟩
def f_rising : Df := ⟨"rising", ["names"], ["names", "name"], Rf.C.s_rising, [], ⟨("rising", none), "rising", "rising", defArgs (top 14), defBody (top 14), defScope (top 14), [], []⟩⟩
def f_ordered : Df := ⟨"ordered", ["sets"], ["sets", "found", "size", "some"], Rf.C.s_ordered, [], ⟨("ordered", none), "ordered", "ordered", defArgs (top 15), defBody (top 15), defScope (top 15), [], []⟩⟩
def f_parts_of : Df := ⟨"parts_of", ["names"], ["names", "found", "name", "some"], Rf.C.s_parts_of, [], ⟨("parts_of", none), "parts_of", "parts_of", defArgs (top 16), defBody (top 16), defScope (top 16), [], []⟩⟩
def f_lowest : Df := ⟨"lowest", ["top", "bottom"], ["top", "bottom", "sign", "one", "other"], Rf.C.s_lowest, [], ⟨("lowest", none), "lowest", "lowest", defArgs (top 20), defBody (top 20), defScope (top 20), [], []⟩⟩
def f_minus : Df := ⟨"minus", ["x", "y"], ["x", "y"], Rf.C.s_minus, [], ⟨("minus", none), "minus", "minus", defArgs (top 21), defBody (top 21), defScope (top 21), [], []⟩⟩
def f_times : Df := ⟨"times", ["x", "y"], ["x", "y"], Rf.C.s_times, [], ⟨("times", none), "times", "times", defArgs (top 22), defBody (top 22), defScope (top 22), [], []⟩⟩
def f_is_less : Df := ⟨"is_less", ["x", "y"], ["x", "y"], Rf.C.s_is_less, [], ⟨("is_less", none), "is_less", "is_less", defArgs (top 23), defBody (top 23), defScope (top 23), [], []⟩⟩
def f_fraction_of : Df := ⟨"fraction_of", ["thing"], ["thing", "part"], Rf.C.s_fraction_of, [], ⟨("fraction_of", none), "fraction_of", "fraction_of", defArgs (top 24), defBody (top 24), defScope (top 24), [], []⟩⟩
def f_size_of : Df := ⟨"size_of", ["thing"], ["thing", "found"], Rf.C.s_size_of, [], ⟨("size_of", none), "size_of", "size_of", defArgs (top 25), defBody (top 25), defScope (top 25), [], []⟩⟩
def f_share_of : Df := ⟨"share_of", ["thing"], ["thing", "found"], Rf.C.s_share_of, [], ⟨("share_of", none), "share_of", "share_of", defArgs (top 26), defBody (top 26), defScope (top 26), [], []⟩⟩
def f_checked_fault : Df := ⟨"checked_fault", ["thing", "names"], ["thing", "names"], Rf.C.s_checked_fault, [], ⟨("checked_fault", none), "checked_fault", "checked_fault", defArgs (top 28), defBody (top 28), defScope (top 28), [], []⟩⟩
def f_checked_names : Df := ⟨"checked_names", ["names", "known"], ["names", "known", "thing"], Rf.C.s_checked_names, [], ⟨("checked_names", none), "checked_names", "checked_names", defArgs (top 29), defBody (top 29), defScope (top 29), [], []⟩⟩
def f_checked_links : Df := ⟨"checked_links", ["links", "names"], ["links", "names", "found", "index", "link", "name"], Rf.C.s_checked_links, [], ⟨("checked_links", none), "checked_links", "checked_links", defArgs (top 30), defBody (top 30), defScope (top 30), [], []⟩⟩
def f_partners : Df := ⟨"partners", ["ties", "name"], ["ties", "name", "link", "other"], Rf.C.s_partners, [], ⟨("partners", none), "partners", "partners", defArgs (top 31), defBody (top 31), defScope (top 31), [], []⟩⟩
def f_System___init__ : Df := ⟨"System.__init__", ["self", "shares", "links"], ["self", "shares", "links", "name"], Rf.C.s_System___init__, [.e0], ⟨("System", some "__init__"), "__init__", "System.__init__", defArgs (inn 32 0), defBody (inn 32 0), defScope (inn 32 0), [(.adr (He.dflAt ("System", some "__init__") 0))], []⟩⟩
def f_System_shares : Df := ⟨"System.shares", ["self"], ["self"], Rf.C.s_System_shares, [], ⟨("System", some "shares"), "shares", "System.shares", defArgs (inn 32 1), defBody (inn 32 1), defScope (inn 32 1), [], []⟩⟩
def f_System_links : Df := ⟨"System.links", ["self"], ["self"], Rf.C.s_System_links, [], ⟨("System", some "links"), "links", "System.links", defArgs (inn 32 2), defBody (inn 32 2), defScope (inn 32 2), [], []⟩⟩
def f_sum_over : Df := ⟨"sum_over", ["system", "names", "known"], ["system", "names", "known", "apart", "less", "first", "rest", "name"], Rf.C.s_sum_over, [], ⟨("sum_over", none), "sum_over", "sum_over", defArgs (top 36), defBody (top 36), defScope (top 36), [], []⟩⟩
def f_set_among : Df := ⟨"set_among", ["system", "names"], ["system", "names"], Rf.C.s_set_among, [], ⟨("set_among", none), "set_among", "set_among", defArgs (top 37), defBody (top 37), defScope (top 37), [], []⟩⟩
def f_first_unsafe : Df := ⟨"first_unsafe", ["system", "names"], ["system", "names", "known", "part"], Rf.C.s_first_unsafe, [], ⟨("first_unsafe", none), "first_unsafe", "first_unsafe", defArgs (top 38), defBody (top 38), defScope (top 38), [], []⟩⟩
def f_is_safe : Df := ⟨"is_safe", ["system", "names"], ["system", "names"], Rf.C.s_is_safe, [.non], ⟨("is_safe", none), "is_safe", "is_safe", defArgs (top 39), defBody (top 39), defScope (top 39), [.non], []⟩⟩
def f_least_chance : Df := ⟨"least_chance", ["system", "names"], ["system", "names", "some"], Rf.C.s_least_chance, [.non], ⟨("least_chance", none), "least_chance", "least_chance", defArgs (top 40), defBody (top 40), defScope (top 40), [.non], []⟩⟩
def f__law_spring : Df := ⟨"_law_spring", ["_law_script"], ["_law_script", "_law_small", "_law_cell"], Rf.C.s__law_spring, [], ⟨("_law_spring", none), "_law_spring", "_law_spring", defArgs (top 42), defBody (top 42), defScope (top 42), [], []⟩⟩
def f__law_take : Df := ⟨"_law_take", ["_law_spring_here", "_law_many"], ["_law_spring_here", "_law_many", "_law_cell", "_law_first", "_law_second", "_law_figure"], Rf.C.s__law_take, [], ⟨("_law_take", none), "_law_take", "_law_take", defArgs (top 43), defBody (top 43), defScope (top 43), [], []⟩⟩
def f__law_one : Df := ⟨"_law_one", ["_law_spring_here", "_law_things"], ["_law_spring_here", "_law_things"], Rf.C.s__law_one, [], ⟨("_law_one", none), "_law_one", "_law_one", defArgs (top 44), defBody (top 44), defScope (top 44), [], []⟩⟩
def f__law_mixed : Df := ⟨"_law_mixed", ["_law_spring_here", "_law_things"], ["_law_spring_here", "_law_things", "_law_left", "_law_found"], Rf.C.s__law_mixed, [], ⟨("_law_mixed", none), "_law_mixed", "_law_mixed", defArgs (top 45), defBody (top 45), defScope (top 45), [], []⟩⟩
def f__law_loose : Df := ⟨"_law_loose", ["_law_spring_here", "_law_things"], ["_law_spring_here", "_law_things"], Rf.C.s__law_loose, [], ⟨("_law_loose", none), "_law_loose", "_law_loose", defArgs (top 46), defBody (top 46), defScope (top 46), [], []⟩⟩
def f__law_rising : Df := ⟨"_law_rising", ["_law_things"], ["_law_things", "_law_thing"], Rf.C.s__law_rising, [], ⟨("_law_rising", none), "_law_rising", "_law_rising", defArgs (top 47), defBody (top 47), defScope (top 47), [], []⟩⟩
def f__law_same : Df := ⟨"_law_same", ["_law_found", "_law_due"], ["_law_found", "_law_due", "_law_is_truth", "_law_key", "_law_x", "_law_y"], Rf.C.s__law_same, [], ⟨("_law_same", none), "_law_same", "_law_same", defArgs (top 48), defBody (top 48), defScope (top 48), [], []⟩⟩
def f__law_lowest : Df := ⟨"_law_lowest", ["_law_top", "_law_bottom"], ["_law_top", "_law_bottom", "_law_one_here", "_law_other"], Rf.C.s__law_lowest, [], ⟨("_law_lowest", none), "_law_lowest", "_law_lowest", defArgs (top 49), defBody (top 49), defScope (top 49), [], []⟩⟩
def f__law_plus : Df := ⟨"_law_plus", ["_law_x", "_law_y"], ["_law_x", "_law_y"], Rf.C.s__law_plus, [], ⟨("_law_plus", none), "_law_plus", "_law_plus", defArgs (top 50), defBody (top 50), defScope (top 50), [], []⟩⟩
def f__law_minus : Df := ⟨"_law_minus", ["_law_x", "_law_y"], ["_law_x", "_law_y"], Rf.C.s__law_minus, [], ⟨("_law_minus", none), "_law_minus", "_law_minus", defArgs (top 51), defBody (top 51), defScope (top 51), [], []⟩⟩
def f__law_times : Df := ⟨"_law_times", ["_law_x", "_law_y"], ["_law_x", "_law_y"], Rf.C.s__law_times, [], ⟨("_law_times", none), "_law_times", "_law_times", defArgs (top 52), defBody (top 52), defScope (top 52), [], []⟩⟩
def f__law_product : Df := ⟨"_law_product", ["_law_parts_here"], ["_law_parts_here", "_law_found", "_law_part"], Rf.C.s__law_product, [], ⟨("_law_product", none), "_law_product", "_law_product", defArgs (top 53), defBody (top 53), defScope (top 53), [], []⟩⟩
def f__law_share : Df := ⟨"_law_share", ["_law_spring_here", "_law_style"], ["_law_spring_here", "_law_style", "_law_bottom"], Rf.C.s__law_share, [], ⟨("_law_share", none), "_law_share", "_law_share", defArgs (top 54), defBody (top 54), defScope (top 54), [], []⟩⟩
def f__law_handed : Df := ⟨"_law_handed", ["_law_spring_here", "_law_number"], ["_law_spring_here", "_law_number", "_law_many", "_law_some", "_law_top", "_law_bottom"], Rf.C.s__law_handed, [], ⟨("_law_handed", none), "_law_handed", "_law_handed", defArgs (top 55), defBody (top 55), defScope (top 55), [], []⟩⟩
def f__law_name : Df := ⟨"_law_name", ["_law_spring_here"], ["_law_spring_here", "_law_words", "_law_size", "_law_signs", "_law_figures", "_law_k"], Rf.C.s__law_name, [], ⟨("_law_name", none), "_law_name", "_law_name", defArgs (top 56), defBody (top 56), defScope (top 56), [], []⟩⟩
def f__law_names : Df := ⟨"_law_names", ["_law_spring_here", "_law_many"], ["_law_spring_here", "_law_many", "_law_found", "_law_k", "_law_spare", "_law_sign", "_law_name_here"], Rf.C.s__law_names, [], ⟨("_law_names", none), "_law_names", "_law_names", defArgs (top 57), defBody (top 57), defScope (top 57), [], []⟩⟩
def f__law_links : Df := ⟨"_law_links", ["_law_spring_here", "_law_names_here", "_law_most"], ["_law_spring_here", "_law_names_here", "_law_most", "_law_one_here", "_law_pairs", "_law_way", "_law_row", "_law_ring", "_law_pair", "_law_other"], Rf.C.s__law_links, [], ⟨("_law_links", none), "_law_links", "_law_links", defArgs (top 58), defBody (top 58), defScope (top 58), [], []⟩⟩
def f__law_house : Df := ⟨"_law_house", ["_law_spring_here", "_law_many", "_law_style"], ["_law_spring_here", "_law_many", "_law_style", "_law_names_here", "_law_shares", "_law_name_here"], Rf.C.s__law_house, [], ⟨("_law_house", none), "_law_house", "_law_house", defArgs (top 59), defBody (top 59), defScope (top 59), [], []⟩⟩
def f__law_made : Df := ⟨"_law_made", ["_law_spring_here", "_law_shares", "_law_links_here"], ["_law_spring_here", "_law_shares", "_law_links_here", "_law_names_here", "_law_told", "_law_one_here", "_law_other", "_law_name_here"], Rf.C.s__law_made, [], ⟨("_law_made", none), "_law_made", "_law_made", defArgs (top 60), defBody (top 60), defScope (top 60), [], []⟩⟩
def f__law_parts : Df := ⟨"_law_parts", ["_law_names_here"], ["_law_names_here", "_law_found", "_law_name_here", "_law_rows", "_law_size", "_law_some"], Rf.C.s__law_parts, [], ⟨("_law_parts", none), "_law_parts", "_law_parts", defArgs (top 61), defBody (top 61), defScope (top 61), [], []⟩⟩
def f__law_is_free : Df := ⟨"_law_is_free", ["_law_links_here", "_law_some"], ["_law_links_here", "_law_some", "_law_one_here", "_law_other"], Rf.C.s__law_is_free, [], ⟨("_law_is_free", none), "_law_is_free", "_law_is_free", defArgs (top 62), defBody (top 62), defScope (top 62), [], []⟩⟩
def f__law_free_sum : Df := ⟨"_law_free_sum", ["_law_shares", "_law_links_here", "_law_some"], ["_law_shares", "_law_links_here", "_law_some", "_law_found", "_law_part", "_law_size", "_law_name_here"], Rf.C.s__law_free_sum, [], ⟨("_law_free_sum", none), "_law_free_sum", "_law_free_sum", defArgs (top 63), defBody (top 63), defScope (top 63), [], []⟩⟩
def f__law_sums : Df := ⟨"_law_sums", ["_law_shares", "_law_links_here"], ["_law_shares", "_law_links_here", "_law_some"], Rf.C.s__law_sums, [], ⟨("_law_sums", none), "_law_sums", "_law_sums", defArgs (top 64), defBody (top 64), defScope (top 64), [], []⟩⟩
def f__law_lies : Df := ⟨"_law_lies", ["_law_some", "_law_other"], ["_law_some", "_law_other", "_law_name_here"], Rf.C.s__law_lies, [], ⟨("_law_lies", none), "_law_lies", "_law_lies", defArgs (top 65), defBody (top 65), defScope (top 65), [], []⟩⟩
def f__law_least : Df := ⟨"_law_least", ["_law_sums_here", "_law_some"], ["_law_sums_here", "_law_some", "_law_part"], Rf.C.s__law_least, [], ⟨("_law_least", none), "_law_least", "_law_least", defArgs (top 66), defBody (top 66), defScope (top 66), [], []⟩⟩
def s_law : SL := (.cons (.asg (.nm 1) (.call "_law_spring" (.cons (.var 0) .nil) 0)) (.cons (.for (.nm 2) (.rng (.int 3)) (.cons (.asg (.tp [5, 6]) (.call "_law_house" (.cons (.var 1) (.cons (.call "_law_take" (.cons (.var 1) (.cons (.int 8) .nil)) 0) (.cons (.call "_law_one" (.cons (.var 1) (.cons (.lst (.cons (.str "any") (.cons (.str "small") (.cons (.str "great") .nil)))) .nil)) 0) .nil))) 0)) (.cons (.par [7, 8] (.cons (.call "_law_made" (.cons (.var 1) (.cons (.var 5) (.cons (.var 6) .nil))) 0) (.cons (.call "_law_sums" (.cons (.var 5) (.cons (.var 6) .nil)) 0) .nil))) (.cons (.for (.nm 3) (.val (.var 8)) (.cons (.asg (.nm 4) (.call "_law_least" (.cons (.var 8) (.cons (.var 3) .nil)) 0)) (.cons (.ife (.not (.call "_law_same" (.cons (.call "least_chance" (.cons (.var 7) (.cons (.call "_law_loose" (.cons (.var 1) (.cons (.var 3) .nil)) 0) .nil)) 1) (.cons (.var 4) .nil)) 0)) (.cons (.ret (.bl false)) .nil) .nil) (.cons (.ife (.not (.call "_law_same" (.cons (.call "is_safe" (.cons (.var 7) (.cons (.call "_law_mixed" (.cons (.var 1) (.cons (.var 3) .nil)) 0) .nil)) 1) (.cons (.cmp .NotEq (.var 4) (.tup (.cons (.int 0) (.cons (.int 1) .nil)))) .nil)) 0)) (.cons (.ret (.bl false)) .nil) .nil) .nil)))) (.cons (.asg (.nm 4) (.call "_law_least" (.cons (.var 8) (.cons (.bi .tuple (.cons (.call "_law_rising" (.cons (.var 5) .nil) 0) .nil)) .nil)) 0)) (.cons (.ife (.not (.call "_law_same" (.cons (.lst (.cons (.call "least_chance" (.cons (.var 7) .nil) 0) (.cons (.call "is_safe" (.cons (.var 7) (.cons .non .nil)) 1) .nil))) (.cons (.lst (.cons (.var 4) (.cons (.cmp .NotEq (.var 4) (.tup (.cons (.int 0) (.cons (.int 1) .nil)))) .nil))) .nil)) 0)) (.cons (.ret (.bl false)) .nil) .nil) (.cons (.ife (.not (.call "_law_same" (.cons (.lst (.cons (.mcall (.var 7) "System" "shares" "System.shares" .nil 0) (.cons (.mcall (.var 7) "System" "links" "System.links" .nil 0) .nil))) (.cons (.lst (.cons (.var 5) (.cons (.var 6) .nil))) .nil)) 0)) (.cons (.ret (.bl false)) .nil) .nil) .nil))))))) (.cons (.ret (.bl true)) .nil)))
def f_law : Df := ⟨"law", ["_law_script"], ["_law_script", "_law_spring_here", "_law_turn", "_law_some", "_law_due", "_law_shares", "_law_links_here", "_law_made_here", "_law_sums_here"], s_law, [], ⟨("law", none), "law", "law", defArgs (top 67), defBody (top 67), defScope (top 67), [], []⟩⟩
def fl : List (Str × List Str) := [("System", ["beside", "ties", "worths"])]
def cn : List (Str × D) := [("FIGURES", (.str "0123456789")), ("ONE", (.tup [.int 1, .int 1])), ("SIGNS", (.str "abcdefghijklmnopqrstuvwxyz")), ("ZERO", (.tup [.int 0, .int 1]))]
def defs : List Df := [f_is_integer, f_is_list, f_is_name, f_is_among, f_rising, f_ordered, f_parts_of, f_lowest, f_minus, f_times, f_is_less, f_fraction_of, f_size_of, f_share_of, f_checked_fault, f_checked_names, f_checked_links, f_partners, f_System___init__, f_System_shares, f_System_links, f_sum_over, f_set_among, f_first_unsafe, f_is_safe, f_least_chance, f__law_spring, f__law_take, f__law_one, f__law_mixed, f__law_loose, f__law_rising, f__law_same, f__law_lowest, f__law_plus, f__law_minus, f__law_times, f__law_product, f__law_share, f__law_handed, f__law_name, f__law_names, f__law_links, f__law_house, f__law_made, f__law_parts, f__law_is_free, f__law_free_sum, f__law_sums, f__law_lies, f__law_least, f_law]
def dflOf (x : Str) : List D := match defs.find? fun d => d.q == x with
  | some d => d.dfl
  | none => []
def itd : List ItDef := [⟨"System", "worths", "self", ⟨("System", some "__iter__"), "__iter__", "System.__iter__", defArgs (inn 32 7), defBody (inn 32 7), defScope (inn 32 7), [], []⟩, ⟨("System", some "__len__"), "__len__", "System.__len__", defArgs (inn 32 5), defBody (inn 32 5), defScope (inn 32 5), [], []⟩⟩]
def tab : Tab := ⟨["abs", "all", "any", "bool", "dict", "enumerate", "int", "isinstance", "len", "list", "range", "set", "sorted", "str", "tuple", "zip"], ["FIGURES", "ONE", "SIGNS", "ZERO"], ((["_law_free_sum", "_law_handed", "_law_house", "_law_is_free", "_law_least", "_law_lies", "_law_links", "_law_loose", "_law_lowest", "_law_made", "_law_minus", "_law_mixed", "_law_name", "_law_names", "_law_one", "_law_parts", "_law_plus", "_law_product", "_law_rising", "_law_same", "_law_share", "_law_spring", "_law_sums", "_law_take", "_law_times", "checked_fault", "checked_links", "checked_names", "first_unsafe", "fraction_of"] : List Str) ++ (["is_among", "is_integer", "is_less", "is_list", "is_name", "is_safe", "law", "least_chance", "lowest", "minus", "ordered", "partners", "parts_of", "rising", "set_among", "share_of", "size_of", "sum_over", "times"] : List Str)), [], ["beside", "ties", "worths"], [("System", "links", "System.links"), ("System", "shares", "System.shares")], [("System", "System.__init__")], dflOf, ["System"]⟩
def L : Law := ⟨defs, cn, fl, [], itd, tab⟩
end Rf.K15
end
section
namespace Rf.K15
open PySem L2
theorem ok : ∀ df, df ∈ L.defs → df.ok L.T = true := by
  have h : (defs.all fun df => df.ok tab) = true := by decide +kernel
  exact fun df hm => List.all_eq_true.mp h df hm
theorem b_System___init__ : BndOk f_System___init__ := by
  intro K fd F j hj
  match j, hj with
  | 0, _ => exact F.binds1 2 0 (by intro h; cases h) rfl fun T kV doc pm an cdv ct us its l1 l2 => match us, its, l1, l2 with | [_, _], [_], _, _ => ⟨_, rfl, rfl⟩
  | 1, _ => exact F.binds1 3 1 (by intro h; cases h) rfl fun T kV doc pm an cdv ct us its l1 l2 => match us, its, l1, l2 with | [_, _, _], [_], _, _ => ⟨_, rfl, rfl⟩
  | _ + 2, h => exact absurd h (by intro z; have z : _ + 2 ≤ 1 := z; omega)
theorem b_is_safe : BndOk f_is_safe := by
  intro K fd F j hj
  match j, hj with
  | 0, _ => exact F.binds1 1 0 (by intro h; cases h) rfl fun T kV doc pm an cdv ct us its l1 l2 => match us, its, l1, l2 with | [_], [_], _, _ => ⟨_, rfl, rfl⟩
  | 1, _ => exact F.binds1 2 1 (by intro h; cases h) rfl fun T kV doc pm an cdv ct us its l1 l2 => match us, its, l1, l2 with | [_, _], [_], _, _ => ⟨_, rfl, rfl⟩
  | _ + 2, h => exact absurd h (by intro z; have z : _ + 2 ≤ 1 := z; omega)
theorem b_least_chance : BndOk f_least_chance := by
  intro K fd F j hj
  match j, hj with
  | 0, _ => exact F.binds1 1 0 (by intro h; cases h) rfl fun T kV doc pm an cdv ct us its l1 l2 => match us, its, l1, l2 with | [_], [_], _, _ => ⟨_, rfl, rfl⟩
  | 1, _ => exact F.binds1 2 1 (by intro h; cases h) rfl fun T kV doc pm an cdv ct us its l1 l2 => match us, its, l1, l2 with | [_, _], [_], _, _ => ⟨_, rfl, rfl⟩
  | _ + 2, h => exact absurd h (by intro z; have z : _ + 2 ≤ 1 := z; omega)
theorem bnd : ∀ df, df ∈ L.defs → BndOk df := by
  have h : (defs.all fun df => (plainB df.dd.params df.ps && df.dfl.isEmpty && df.dd.dfl.isEmpty) || df.q == "System.__init__" || df.q == "is_safe" || df.q == "least_chance") = true := by decide +kernel
  intro df hm
  have hm : df ∈ [f_is_integer, f_is_list, f_is_name, f_is_among, f_rising, f_ordered, f_parts_of, f_lowest, f_minus, f_times, f_is_less, f_fraction_of, f_size_of, f_share_of, f_checked_fault, f_checked_names, f_checked_links, f_partners, f_System___init__, f_System_shares, f_System_links, f_sum_over, f_set_among, f_first_unsafe, f_is_safe, f_least_chance, f__law_spring, f__law_take, f__law_one, f__law_mixed, f__law_loose, f__law_rising, f__law_same, f__law_lowest, f__law_plus, f__law_minus, f__law_times, f__law_product, f__law_share, f__law_handed, f__law_name, f__law_names, f__law_links, f__law_house, f__law_made, f__law_parts, f__law_is_free, f__law_free_sum, f__law_sums, f__law_lies, f__law_least, f_law] := hm
  simp only [List.mem_cons, List.not_mem_nil, or_false] at hm
  rcases hm with rfl | rfl | rfl | rfl | rfl | rfl | rfl | rfl | rfl | rfl | rfl | rfl | rfl | rfl | rfl | rfl | rfl | rfl | rfl | rfl | rfl | rfl | rfl | rfl | rfl | rfl | rfl | rfl | rfl | rfl | rfl | rfl | rfl | rfl | rfl | rfl | rfl | rfl | rfl | rfl | rfl | rfl | rfl | rfl | rfl | rfl | rfl | rfl | rfl | rfl | rfl | rfl
  · exact bnd_plain (by decide +kernel)
  · exact bnd_plain (by decide +kernel)
  · exact bnd_plain (by decide +kernel)
  · exact bnd_plain (by decide +kernel)
  · exact bnd_plain (by decide +kernel)
  · exact bnd_plain (by decide +kernel)
  · exact bnd_plain (by decide +kernel)
  · exact bnd_plain (by decide +kernel)
  · exact bnd_plain (by decide +kernel)
  · exact bnd_plain (by decide +kernel)
  · exact bnd_plain (by decide +kernel)
  · exact bnd_plain (by decide +kernel)
  · exact bnd_plain (by decide +kernel)
  · exact bnd_plain (by decide +kernel)
  · exact bnd_plain (by decide +kernel)
  · exact bnd_plain (by decide +kernel)
  · exact bnd_plain (by decide +kernel)
  · exact bnd_plain (by decide +kernel)
  · exact b_System___init__
  · exact bnd_plain (by decide +kernel)
  · exact bnd_plain (by decide +kernel)
  · exact bnd_plain (by decide +kernel)
  · exact bnd_plain (by decide +kernel)
  · exact bnd_plain (by decide +kernel)
  · exact b_is_safe
  · exact b_least_chance
  · exact bnd_plain (by decide +kernel)
  · exact bnd_plain (by decide +kernel)
  · exact bnd_plain (by decide +kernel)
  · exact bnd_plain (by decide +kernel)
  · exact bnd_plain (by decide +kernel)
  · exact bnd_plain (by decide +kernel)
  · exact bnd_plain (by decide +kernel)
  · exact bnd_plain (by decide +kernel)
  · exact bnd_plain (by decide +kernel)
  · exact bnd_plain (by decide +kernel)
  · exact bnd_plain (by decide +kernel)
  · exact bnd_plain (by decide +kernel)
  · exact bnd_plain (by decide +kernel)
  · exact bnd_plain (by decide +kernel)
  · exact bnd_plain (by decide +kernel)
  · exact bnd_plain (by decide +kernel)
  · exact bnd_plain (by decide +kernel)
  · exact bnd_plain (by decide +kernel)
  · exact bnd_plain (by decide +kernel)
  · exact bnd_plain (by decide +kernel)
  · exact bnd_plain (by decide +kernel)
  · exact bnd_plain (by decide +kernel)
  · exact bnd_plain (by decide +kernel)
  · exact bnd_plain (by decide +kernel)
  · exact bnd_plain (by decide +kernel)
  · exact bnd_plain (by decide +kernel)
theorem ready : L.Ready f_law := ⟨rfl, by decide +kernel, bnd, ok, by simp [L, defs], rfl, by decide +kernel, rfl, ⟨_, rfl⟩, by decide +kernel⟩
def loose : List Str := ((["_wall", "FaultError", "BadFault", "BadLink", "NoFault", "Clash", "SIGNS", "FIGURES", "is_integer", "is_list", "is_name", "is_among", "rising", "ordered", "parts_of", "ZERO", "ONE", "lowest", "minus", "times", "is_less", "fraction_of", "size_of", "share_of", "checked_fault", "checked_names", "checked_links", "partners", "System", "links_of"] : List Str) ++ (["both_shares", "sum_over", "set_among", "first_unsafe", "is_safe", "least_chance", "_law_spring", "_law_take", "_law_one", "_law_mixed", "_law_loose", "_law_rising", "_law_same", "_law_lowest", "_law_plus", "_law_minus", "_law_times", "_law_product", "_law_share", "_law_handed", "_law_name", "_law_names", "_law_links", "_law_house", "_law_made", "_law_parts", "_law_is_free", "_law_free_sum", "_law_sums", "_law_lies"] : List Str) ++ (["_law_least"] : List Str))
abbrev R : PySem.W.OpenRow := PySem.W.OpenLaw.row PySem.Challenge.rw_linkedfaults_k15_whole_least_chances
theorem run (w : World) : HandSHeadRun.RunEq R (PySem.W.view R.prog [67]) (L.hk 6) (L.ob 6) 4000 loose w := by
  intro os
  kernel_rfl
end Rf.K15
namespace Rf.K15
open PySem PySem.W PySem.Calls PyProof.Rows
abbrev RW : PySem.W.OpenLaw := PySem.Challenge.rw_linkedfaults_k15_whole_least_chances
theorem a1 : opening R.prog = plainProg R.prog.main.scope.names := by kernel_rfl
theorem a2 (s) : fenceModules? R.prog s = some s := by kernel_rfl
theorem a3 : defOf (PySem.W.view R.prog [67]) R.name = some (HandSHeadRun.topDef R.prog 67, []) := by kernel_rfl
theorem a4 : R.prog.theDef R.name = some ((HandSHeadRun.topDef R.prog 67).params, (HandSHeadRun.topDef R.prog 67).body, (HandSHeadRun.topDef R.prog 67).scope) := by kernel_rfl
theorem a5 : kwWritten? (HandSHeadRun.topDef R.prog 67).params.kwonlyargs (HandSHeadRun.topDef R.prog 67).params.kw_defaults = some [] := by kernel_rfl
theorem a6 : (!R.writes || R.records.isEmpty) = true := by decide +kernel
theorem a8 : (chainsOk (PySem.W.view R.prog [67]) && opensWell R.prog && (frees R.toRowW && R.within.isEmpty)) = true := by decide +kernel
theorem a9 : R.prog.bare := ⟨by kernel_rfl, by kernel_rfl, by kernel_rfl, by kernel_rfl, by kernel_rfl, by decide +kernel⟩
theorem wit : R.toRowW.promised := by w_witness2
theorem b1 : (HandSHeadRun.topDef R.prog 67).name = ("law" : PySem.Str) := by kernel_rfl
theorem b2 : (HandSHeadRun.topDef R.prog 67).params.defaults = [] := by kernel_rfl
theorem b3 (d : Nat) (hd : L2.Room (2 * d + 4) callerA) (g : L.good d f_law) : WalkO (PySem.W.view R.prog [67]) loose (XL (PySem.W.view R.prog [67]) []) (L.hk 6).says R.toRowW (HandSHeadRun.topDef R.prog 67) [] (fun f vs => PySem.call f vs) := by
  refine L2.walk_ofE (l := RW) (n := 63) (k := 2 * d + 4) (x := "_law_script") (CX := Rf.CXe RW.prog) rfl (by decide) b2 hd ?F (fun _ _ _ _ h => Rf.cxe_false h)
  intro w mg fa h Y G hm0
  obtain ⟨K, KX, c⟩ := Y
  rw [b1] at hm0
  obtain ⟨fd, sp, hb, hsp, hF⟩ := Rf.Law.fin (P := RW.prog) ready g rfl KX G hm0 c
  exact ⟨K, fd, sp, KX, hb, hsp, hF⟩
theorem b4 (d : Nat) (hd : L2.Room (2 * d + 4) callerA) (g : L.good d f_law) (said : R.wellSaid = true) : R.Holds :=
  HandSHeadRun.head_any (r := R) (q := PySem.W.view R.prog [67]) (H := L.hk 6) (ob := L.ob 6) (M := 4000) (loose := loose) (d := HandSHeadRun.topDef R.prog 67) (kwd := []) (L.ob_eq 6) a1 a2 run a3 a4 a5 a6 said a8 a9 wit (b3 d hd g)
set_option maxHeartbeats 0 in
theorem close (d : Nat) (hd : L2.Room (2 * d + 4) callerA) (g : L.good d f_law) : PySem.Challenge.rw_linkedfaults_k15_whole_least_chances.Holds := by
  w_on; o_law
  rename_i said
  exact b4 d hd g said
end Rf.K15
end
section
namespace Rf
open PySem L2
/-! ### plain laws: what is known of a function -/
def Has (ft : FT) (f : Str) (S : (List D → Sto → R D) → Prop) : Prop := ∃ g, ft.fn f = some g ∧ S g
def SL.drop : Nat → SL → SL
  | 0, s => s
  | n + 1, .cons _ r => SL.drop n r
  | _ + 1, .nil => .nil
/-! ### a run gives something of which Q stands -/
/-- a mark that keeps simp from going into what comes behind -/
abbrev Un {β : Type} (q : β) : Type := Unit
def RW {α : Type} (r : R α) (Q : α → Sto → Prop) (u : Un Q := ()) : Prop := match r with
  | .ok a Ω => Q a Ω
  | _ => False
def SW (r : RS) (N : Env → Sto → Prop) (Q : D → Sto → Prop) (u : Un N := ()) (w : Un Q := ()) : Prop := match r with
  | .ok (.nx ρ) Ω => N ρ Ω
  | .ok (.rt d) Ω => Q d Ω
  | _ => False
theorem RW.ex {α : Type} {r : R α} {Q : α → Sto → Prop} (h : RW r Q) : ∃ a Ω, r = .ok a Ω ∧ Q a Ω := by
  cases r with
  | ok a Ω => exact ⟨a, Ω, rfl, h⟩
  | _ => exact False.elim h
theorem RW.of {α : Type} {r : R α} {Q : α → Sto → Prop} {a : α} {Ω : Sto} (e : r = .ok a Ω) (h : Q a Ω) : RW r Q := by rw [e]; exact h
theorem RW.mono {α : Type} {r : R α} {Q Q' : α → Sto → Prop} (h : RW r Q) (k : ∀ a Ω, Q a Ω → Q' a Ω) : RW r Q' := by
  cases r with
  | ok a Ω => exact k a Ω h
  | _ => exact h
theorem SW.mono {r : RS} {N N' : Env → Sto → Prop} {Q Q' : D → Sto → Prop} (h : SW r N Q) (k : ∀ ρ Ω, N ρ Ω → N' ρ Ω) (k2 : ∀ d Ω, Q d Ω → Q' d Ω) : SW r N' Q' := by
  cases r with
  | ok f Ω => cases f <;> first | exact k _ _ h | exact k2 _ _ h | exact h
  | _ => exact h
section
variable {α β : Type} {Q : α → Sto → Prop} {N : Env → Sto → Prop} {q : D → Sto → Prop} {ft : FT} {ρ : Env} {Ω : Sto}
theorem RW_ok {a : α} : RW (.ok a Ω) Q = Q a Ω := rfl
theorem RW_bad : RW (.bad : R α) Q = False := rfl
theorem RW_bind {r : R β} {f : β → Sto → R α} : RW (r.bind f) Q = RW r (fun a Ω => RW (f a Ω) Q) := by cases r <;> rfl
theorem RW_nx {r : R α} : RW r.nx Q = RW r Q := by cases r <;> rfl
theorem RW_some {a : α} : RW (opt (some a) Ω) Q = Q a Ω := rfl
theorem RW_ite {c : Prop} [Decidable c] {r r' : R α} : RW (if c then r else r') Q = if c then RW r Q else RW r' Q := by split <;> rfl
theorem SW_nx {Ω' : Sto} : SW (.ok (.nx ρ) Ω') N q = N ρ Ω' := rfl
theorem SW_rt {d : D} {Ω' : Sto} : SW (.ok (.rt d) Ω') N q = q d Ω' := rfl
theorem SW_st {r : R α} {f : α → Sto → RS} : SW (r.st ρ f) N q = RW r (fun a Ω => SW (f a Ω) N q) := by cases r <;> rfl
theorem SW_ite {c : Prop} [Decidable c] {r r' : RS} : SW (if c then r else r') N q = if c then SW r N q else SW r' N q := by split <;> rfl
theorem SW_nil : SW (exL ft .nil ρ Ω) N q = N ρ Ω := by rw [exL]; rfl
theorem SW_cons {s : S} {r : SL} : SW (exL ft (.cons s r) ρ Ω) N q = SW (exS ft s ρ Ω) (fun ρ Ω => SW (exL ft r ρ Ω) N q) q := by
  rw [exL]
  cases exS ft s ρ Ω with
  | ok f Ω' => cases f <;> rfl
  | _ => rfl
/-- a def runs -/
theorem run_of {np n : Nat} {b : SL} {ds : List D} {P : D → Sto → Prop} (hl : ds.length = np) (h : SW (exL ft b (ds.map some ++ List.replicate (n - ds.length) none) Ω) (fun _ Ω => P .non Ω) P) : ∃ d Ω', runD ft np n b ds Ω = .ok d Ω' ∧ P d Ω' := by
  unfold runD
  rw [if_pos hl]
  cases e : exL ft b (ds.map some ++ List.replicate (n - ds.length) none) Ω with
  | ok f Ω' =>
    rw [e] at h
    cases f with
    | nx ρ => exact ⟨_, _, rfl, h⟩
    | rt d => exact ⟨_, _, rfl, h⟩
    | bk ρ => exact False.elim h
    | ct ρ => exact False.elim h
  | ex x ρ Ω' => rw [e] at h; exact False.elim h
  | bad => rw [e] at h; exact False.elim h
/-- a call -/
theorem call_of {S : (List D → Sto → R D) → Prop} {f : Str} {ds : List D} {P : D → Sto → Prop} (h : Has ft f S) (k : ∀ g, S g → ∃ d Ω', g ds Ω = .ok d Ω' ∧ P d Ω') : RW (match ft.fn f with | some g => g ds Ω | none => .bad) P := by
  obtain ⟨g, e, s⟩ := h
  obtain ⟨d, Ω', e2, p⟩ := k g s
  rw [e]
  exact RW.of e2 p
end
section
variable (Ω : Sto)
theorem lk_int (i : Int) : lk Ω (.int i) = .int i := rfl
theorem lk_bl (i : Bool) : lk Ω (.bl i) = .bl i := rfl
theorem lk_str (i : Str) : lk Ω (.str i) = .str i := rfl
theorem lk_non : lk Ω .non = .non := rfl
theorem lk_tup (i : List D) : lk Ω (.tup i) = .tup i := rfl
theorem lk_lst (i : List D) : lk Ω (.lst i) = .lst i := rfl
theorem lk_dk (i : List (Key × D)) : lk Ω (.dk i) = .dk i := rfl
theorem lk_dt (i : List (List Key × D)) : lk Ω (.dt i) = .dt i := rfl
theorem lk_ins (c : Str) (i : List (Str × D)) : lk Ω (.ins c i) = .ins c i := rfl
theorem lk_e0 : lk Ω .e0 = .e0 := rfl
theorem lk_scr (i : List Int) : lk Ω (.scr i) = .scr i := rfl
theorem lk_hl {k : Nat} {xs : List D} (h : Ω[k]? = some (.lst xs)) : lk Ω (.hd k) = .lst xs := by show (match Ω[k]? with | some (.lst xs) => D.lst xs | some (.dk kvs) => .dk kvs | some (.dt kvs) => .dt kvs | some (.ins c fs) => .ins c fs | _ => .hd k) = _; rw [h]
theorem lk_hk {k : Nat} {xs : List (Key × D)} (h : Ω[k]? = some (.dk xs)) : lk Ω (.hd k) = .dk xs := by show (match Ω[k]? with | some (.lst xs) => D.lst xs | some (.dk kvs) => .dk kvs | some (.dt kvs) => .dt kvs | some (.ins c fs) => .ins c fs | _ => .hd k) = _; rw [h]
theorem lk_ht {k : Nat} {xs : List (List Key × D)} (h : Ω[k]? = some (.dt xs)) : lk Ω (.hd k) = .dt xs := by show (match Ω[k]? with | some (.lst xs) => D.lst xs | some (.dk kvs) => .dk kvs | some (.dt kvs) => .dt kvs | some (.ins c fs) => .ins c fs | _ => .hd k) = _; rw [h]
theorem lk_hi {k : Nat} {c : Str} {xs : List (Str × D)} (h : Ω[k]? = some (.ins c xs)) : lk Ω (.hd k) = .ins c xs := by show (match Ω[k]? with | some (.lst xs) => D.lst xs | some (.dk kvs) => .dk kvs | some (.dt kvs) => .dt kvs | some (.ins c fs) => .ins c fs | _ => .hd k) = _; rw [h]
end
theorem ixN_03 : ixN 4 0 = some 0 := by decide
theorem ixN_13 : ixN 4 1 = some 1 := by decide
theorem ixN_23 : ixN 4 2 = some 2 := by decide
theorem ixN_33 : ixN 4 3 = some 3 := by decide
theorem set_get {α : Type} {l : List α} {i : Nat} {a b : α} (h : l[i]? = some a) : (l.set i b)[i]? = some b := List.getElem?_set_self (List.getElem?_eq_some_iff.mp h).1
theorem atI0 {α : Type} (a : α) (l : List α) : atI (a :: l) 0 = some a := by
  unfold atI ixN
  rw [if_pos (by decide), if_pos (by simp)]
  rfl
theorem atI_s {α : Type} (a : α) (l : List α) (i : Int) (h : 0 ≤ i) : atI (a :: l) (i + 1) = atI l i := by
  unfold atI ixN
  have e1 : (0 : Int) ≤ i + 1 := by omega
  have e2 : (i + 1).toNat = i.toNat + 1 := by omega
  rw [if_pos e1, if_pos h]
  by_cases hl : i < (l.length : Int)
  · rw [if_pos (by rw [List.length_cons]; push_cast; omega), if_pos hl, e2]
    rfl
  · rw [if_neg (by rw [List.length_cons]; push_cast; omega), if_neg hl]
    rfl
theorem atI1 {α : Type} (a b : α) (l : List α) : atI (a :: b :: l) 1 = some b := by rw [show (1 : Int) = 0 + 1 from rfl, atI_s _ _ _ (by decide), atI0]
theorem atI2 {α : Type} (a b c : α) (l : List α) : atI (a :: b :: c :: l) 2 = some c := by rw [show (2 : Int) = 1 + 1 from rfl, atI_s _ _ _ (by decide), atI1]
theorem atI3 {α : Type} (a b c d : α) (l : List α) : atI (a :: b :: c :: d :: l) 3 = some d := by rw [show (3 : Int) = 2 + 1 from rfl, atI_s _ _ _ (by decide), atI2]
theorem idxD_lst (xs : List D) (i : Int) : idxD (.lst xs) (.int i) = atI xs i := rfl
theorem idxD_tup (xs : List D) (i : Int) : idxD (.tup xs) (.int i) = atI xs i := rfl
theorem ixN_lit {n : Nat} {i : Int} (h : 0 ≤ i) (h2 : i < n) : ixN n i = some i.toNat := by unfold ixN; rw [if_pos h, if_pos h2]
/-! ### equality of data -/
theorem eqD_int (a b : Int) : eqD (.int a) (.int b) = some (a == b) := rfl
theorem toPys_ints : ∀ xs : List Int, toPys (xs.map .int) = some (xs.map .int)
  | [] => rfl
  | x :: xs => by show (match toPy (D.int x), toPys (xs.map .int) with | some d, some ds => some (d :: ds) | _, _ => none) = _; rw [toPys_ints xs]; rfl
theorem canLay_ints : ∀ xs : List Int, PyData.canLayAll0 (xs.map PyData.int) = true
  | [] => by simp [PyData.canLayAll0]
  | x :: xs => by simp [PyData.canLayAll0, PyData.canLay0, canLay_ints xs]
theorem depth_ints : ∀ xs : List Int, PyData.depthAll (xs.map PyData.int) = 0
  | [] => by simp [PyData.depthAll]
  | x :: xs => by simp [PyData.depthAll, PyData.depth, depth_ints xs]
theorem eqD_ints_nil (xs : List Int) : eqD (.lst (xs.map .int)) (.lst []) = some xs.isEmpty := by
  unfold eqD
  have e : toPy (.lst (xs.map .int)) = some (.list (xs.map .int)) := by show (toPys _).map _ = _; rw [toPys_ints]; rfl
  have e2 : toPy (.lst []) = some (.list []) := rfl
  have s1 : SeqAt.shaped (.list (xs.map .int)) = true := by
    unfold SeqAt.shaped
    simp [PyData.canLay0, PyData.depth, canLay_ints, depth_ints]
  have s2 : SeqAt.shaped (.list []) = true := by decide
  rw [e, e2]
  simp only [s1, s2, and_self, if_true]
  cases xs with
  | nil => simp [PyData.eqv, PyData.eqvAll]
  | cons x xs => simp [PyData.eqv, PyData.eqvAll]
/-! ### operations, one by one -/
section
variable (i j : Int) (s t : Str) (xs ys : List D)
theorem addi : op2D .Add (.int i) (.int j) = some (.int (i + j)) := rfl
theorem subi : op2D .Sub (.int i) (.int j) = some (.int (i - j)) := rfl
theorem modi : op2D .Mod (.int i) (.int j) = if 0 < j then some (.int (i % j)) else none := rfl
theorem divi : op2D .FloorDiv (.int i) (.int j) = if 0 < j ∧ j.natAbs.log2 < 9000 then some (.int (i / j)) else none := rfl
theorem muli : op2D .Mult (.int i) (.int j) = if i.natAbs.log2 + j.natAbs.log2 < 1000000 then some (.int (i * j)) else none := rfl
theorem powi : op2D .Pow (.int i) (.int j) = if 0 ≤ j ∧ j ≤ 1000000 ∧ i.natAbs < 2 ^ 64 then some (.int (i ^ j.toNat)) else none := rfl
theorem adds : op2D .Add (.str s) (.str t) = if s.length + t.length ≤ big then some (.str (s ++ t)) else none := rfl
theorem addl : op2D .Add (.lst xs) (.lst ys) = if xs.length + ys.length ≤ big then some (.lst (xs ++ ys)) else none := rfl
theorem addt : op2D .Add (.tup xs) (.tup ys) = if xs.length + ys.length ≤ big then some (.tup (xs ++ ys)) else none := rfl
theorem mull : op2D .Mult (.lst xs) (.int j) = if -(2 ^ 63) ≤ j ∧ j < 2 ^ 63 ∧ xs.length * j.toNat ≤ big then some (.lst (List.replicate j.toNat xs).flatten) else none := rfl
theorem lenl : biD .len [.lst xs] = some (.int xs.length) := rfl
theorem lent : biD .len [.tup xs] = some (.int xs.length) := rfl
theorem lenk (kvs : List (Key × D)) : biD .len [.dk kvs] = some (.int kvs.length) := rfl
theorem lens : biD .len [.str s] = if s.length ≤ big then some (.int s.length) else none := rfl
theorem inti : biD .int [.int i] = some (.int i) := rfl
theorem intb (b : Bool) : biD .int [.bl b] = some (.int (if b then 1 else 0)) := rfl
theorem absi : biD .abs [.int i] = some (.int (if i < 0 then -i else i)) := rfl
theorem strs_ : biD .str [.str s] = some (.str s) := rfl
theorem listd (d : D) : biD .list [d] = listD d := rfl
theorem tupl : biD .tuple [.lst xs] = some (.tup xs) := rfl
theorem tupt : biD .tuple [.tup xs] = some (.tup xs) := rfl
theorem alll : biD .all [.lst xs] = (boolsD xs).map fun bs => .bl (bs.all id) := rfl
theorem anyl : biD .any [.lst xs] = (boolsD xs).map fun bs => .bl (bs.any id) := rfl
theorem cEq (a b : D) : cmpD .Eq a b = eqD a b := by cases a <;> rfl
theorem cNe (a b : D) : cmpD .NotEq a b = (eqD a b).map (!·) := by cases a <;> rfl
theorem cIn (a b : D) : cmpD .In a b = inD a b := by cases a <;> rfl
theorem cNi (a b : D) : cmpD .NotIn a b = (inD a b).map (!·) := by cases a <;> rfl
theorem cLt : cmpD .Lt (.int i) (.int j) = some (decide (i < j)) := rfl
theorem cLe : cmpD .LtE (.int i) (.int j) = some (decide (i ≤ j)) := rfl
theorem cGt : cmpD .Gt (.int i) (.int j) = some (decide (j < i)) := rfl
theorem cGe : cmpD .GtE (.int i) (.int j) = some (decide (j ≤ i)) := rfl
theorem cLs : cmpD .Lt (.str s) (.str t) = some (decide (s.cps.toList < t.cps.toList)) := rfl
end
theorem big0 : (0 ≤ big) = True := by simp
theorem big1 : (1 ≤ big) = True := by simp [big]
theorem big2 : (2 ≤ big) = True := by simp [big]
theorem big3 : (3 ≤ big) = True := by simp [big]
theorem big4 : (4 ≤ big) = True := by simp [big]
theorem log_lt {i : Int} {k : Nat} (h : i.natAbs < 2 ^ k) : i.natAbs.log2 < k + 1 := by
  by_cases hz : i.natAbs = 0
  · simp [hz]
  · have := (Nat.log2_lt hz (k := k)).mpr h
    omega
theorem mul_small {i j : Int} (hi : i.natAbs < 2 ^ 490000) (hj : j.natAbs < 2 ^ 490000) : op2D .Mult (.int i) (.int j) = some (.int (i * j)) := by
  have h1 := log_lt hi
  have h2 := log_lt hj
  rw [muli, if_pos (by omega)]
theorem div_small {i j : Int} (hj : 0 < j) (h2 : j.natAbs < 2 ^ 8999) : op2D .FloorDiv (.int i) (.int j) = some (.int (i / j)) := by
  have h3 := log_lt h2
  rw [divi, if_pos ⟨hj, by omega⟩]
theorem mod_pos {i j : Int} (hj : 0 < j) : op2D .Mod (.int i) (.int j) = some (.int (i % j)) := by rw [modi, if_pos hj]
end Rf
end
local macro_rules
  | `(tactic| simp_arith only []) => `(tactic| try simp -dsimp only [Rf.SW_nx, Rf.SW_rt, Rf.SW_st, Rf.exS, Rf.evT, Rf.evE, Rf.evAnd, Rf.evOr, Rf.evL, Rf.evO, Rf.evC, Rf.evSr, Rf.RW_bind, Rf.RW_ok, Rf.RW_nx, Rf.RW_some, List.getElem?_cons_zero, List.getElem?_cons_succ, Rf.lk_int, Rf.lk_bl, Rf.lk_str, Rf.lk_non, Rf.lk_tup, Rf.lk_lst, Rf.lk_dk, Rf.lk_dt, Rf.lk_ins, Rf.lk_e0, Rf.lk_scr, Rf.idxD_lst, Rf.idxD_tup, Rf.atI0, Rf.atI1, Rf.atI2, Rf.atI3, Rf.addi, Rf.subi, Rf.lenl, Rf.lent, Rf.lenk, Rf.inti, Rf.intb, Rf.absi, Rf.strs_, Rf.tupl, Rf.tupt, Rf.cEq, Rf.cNe, Rf.cIn, Rf.cNi, Rf.cLt, Rf.cLe, Rf.cGt, Rf.cGe, Rf.cLs, Rf.eqD_int, List.set_cons_zero, List.set_cons_succ, Rf.asBool, Bool.false_eq_true, if_true, if_false, ite_true, ite_false, Rf.bindT, Rf.setAll, List.map_cons, List.map_nil, Rf.isNonD, Rf.wipeD, List.length_cons, List.length_nil, Nat.zero_add, Nat.reduceAdd, List.drop_nil, List.append_nil, Option.map_some, Rf.ixN_03, Rf.ixN_13, Rf.ixN_23, Rf.ixN_33, Bool.not_true, Bool.not_false, Rf.big0, Rf.big1, Rf.big2, Rf.big3, Rf.big4, Rf.methX, Rf.methM, Rf.lookM, Rf.recvOk, List.nil_append, List.cons_append])
  | `(tactic| simp_arith only [$args,*]) => `(tactic| try simp -dsimp only [Rf.SW_nx, Rf.SW_rt, Rf.SW_st, Rf.exS, Rf.evT, Rf.evE, Rf.evAnd, Rf.evOr, Rf.evL, Rf.evO, Rf.evC, Rf.evSr, Rf.RW_bind, Rf.RW_ok, Rf.RW_nx, Rf.RW_some, List.getElem?_cons_zero, List.getElem?_cons_succ, Rf.lk_int, Rf.lk_bl, Rf.lk_str, Rf.lk_non, Rf.lk_tup, Rf.lk_lst, Rf.lk_dk, Rf.lk_dt, Rf.lk_ins, Rf.lk_e0, Rf.lk_scr, Rf.idxD_lst, Rf.idxD_tup, Rf.atI0, Rf.atI1, Rf.atI2, Rf.atI3, Rf.addi, Rf.subi, Rf.lenl, Rf.lent, Rf.lenk, Rf.inti, Rf.intb, Rf.absi, Rf.strs_, Rf.tupl, Rf.tupt, Rf.cEq, Rf.cNe, Rf.cIn, Rf.cNi, Rf.cLt, Rf.cLe, Rf.cGt, Rf.cGe, Rf.cLs, Rf.eqD_int, List.set_cons_zero, List.set_cons_succ, Rf.asBool, Bool.false_eq_true, if_true, if_false, ite_true, ite_false, Rf.bindT, Rf.setAll, List.map_cons, List.map_nil, Rf.isNonD, Rf.wipeD, List.length_cons, List.length_nil, Nat.zero_add, Nat.reduceAdd, List.drop_nil, List.append_nil, Option.map_some, Rf.ixN_03, Rf.ixN_13, Rf.ixN_23, Rf.ixN_33, Bool.not_true, Bool.not_false, Rf.big0, Rf.big1, Rf.big2, Rf.big3, Rf.big4, Rf.methX, Rf.methM, Rf.lookM, Rf.recvOk, List.nil_append, List.cons_append, $args,*])
section
namespace Rf
open PySem L2
/-! ### the spring of draws -/
def Sp (Ω : Sto) (s b : Nat) (c : Int) : Prop := ∃ (bigs : List Int) (cur : Int) (sm : List Int) (cnt : Int), Ω[s]? = some (.lst [.hd b, .int cur, .lst (sm.map .int), .int cnt]) ∧ Ω[b]? = some (.lst (bigs.map .int)) ∧ s ≠ b ∧ 0 ≤ cnt ∧ cnt ≤ c
/-- all but the spring is kept -/
structure Kp (s b : Nat) (Ω Ω' : Sto) : Prop where
  len : Ω.length ≤ Ω'.length
  at_ : ∀ i, i < Ω.length → i ≠ s → i ≠ b → Ω'[i]? = Ω[i]?
theorem Kp.refl {s b : Nat} {Ω : Sto} : Kp s b Ω Ω := ⟨Nat.le_refl _, fun _ _ _ _ => rfl⟩
theorem Kp.trans {s b : Nat} {Ω Ω' Ω'' : Sto} (h : Kp s b Ω Ω') (h' : Kp s b Ω' Ω'') : Kp s b Ω Ω'' := ⟨Nat.le_trans h.len h'.len, fun i hi h1 h2 => (h'.at_ i (Nat.lt_of_lt_of_le hi h.len) h1 h2).trans (h.at_ i hi h1 h2)⟩
/-! ### a draw -/
def TakeS (g : List D → Sto → R D) : Prop := ∀ Ω s b c m, Sp Ω s b c → c < 2 ^ 40 → 0 < m → m < 2 ^ 60 → ∃ v Ω', g [.hd s, .int m] Ω = .ok (.int v) Ω' ∧ 0 ≤ v ∧ v < m ∧ Sp Ω' s b (c + 1) ∧ Kp s b Ω Ω'
theorem take_ok (ft : FT) : TakeS (runD ft 2 6 C.s__law_take) := by
  intro Ω s b c m ⟨bigs, cur, sm, cnt, hs, hb, hne, h0, hc⟩ hc2 hm hm2
  suffices h : ∃ d Ω', runD ft 2 6 C.s__law_take [.hd s, .int m] Ω = .ok d Ω' ∧ ∃ v, d = .int v ∧ 0 ≤ v ∧ v < m ∧ Sp Ω' s b (c + 1) ∧ Kp s b Ω Ω' by
    obtain ⟨d, Ω', e, v, rfl, h⟩ := h
    exact ⟨v, Ω', e, h⟩
  refine run_of rfl ?_
  show SW (exL ft C.s__law_take [some (.hd s), some (.int m), none, none, none, none] Ω) _ _
  have hs' := lk_hl Ω hs
  have st : ∀ ob, (Ω.set s ob)[s]? = some ob := fun ob => set_get hs
  unfold C.s__law_take
  rw [SW_cons]
  simp_arith only [hs', hs]
  generalize hΩ1 : Ω.set s (Ob.lst [D.hd b, D.int cur, D.lst (sm.map D.int), D.int (cnt + 1)]) = Ω1
  have hs1 : Ω1[s]? = some (Ob.lst [D.hd b, D.int cur, D.lst (sm.map D.int), D.int (cnt + 1)]) := by rw [← hΩ1]; exact st _
  have hb1 : Ω1[b]? = some (Ob.lst (bigs.map .int)) := by rw [← hΩ1, List.getElem?_set_ne hne]; exact hb
  have k1 : Kp s b Ω Ω1 := by rw [← hΩ1]; exact ⟨by rw [List.length_set]; exact Nat.le_refl _, fun i _ h1 _ => List.getElem?_set_ne (Ne.symm h1)⟩
  clear hΩ1
  have hs1' := lk_hl Ω1 hs1
  have hb1' := lk_hl Ω1 hb1
  rw [SW_cons]
  /- the second row: a great cell is taken in hand -/
  have cut : ∀ (P : Sto → Prop), (∀ (cur : Int) (bigs : List Int) Ω2, Ω2[s]? = some (Ob.lst [D.hd b, D.int cur, D.lst (sm.map D.int), D.int (cnt + 1)]) → Ω2[b]? = some (Ob.lst (bigs.map .int)) → Kp s b Ω Ω2 → P Ω2) →
      SW (exS ft (S.ife (E.and (EL.cons (E.cmp CmpOp.Eq ((E.var 0).idx (E.int 1)) (E.int 0)) (EL.cons (E.cmp CmpOp.NotEq ((E.var 0).idx (E.int 0)) (E.lst EL.nil)) EL.nil))) (SL.cons (S.iset (E.var 0) (E.int 1) (((E.var 0).idx (E.int 0)).meth Mt.popi (EL.cons (E.int 0) EL.nil))) SL.nil) SL.nil) [some (D.hd s), some (D.int m), none, none, none, none] Ω1) (fun ρ Ω => ρ = [some (D.hd s), some (D.int m), none, none, none, none] ∧ P Ω) (fun _ _ => False) := by
    intro P hP
    have dn := hP cur bigs Ω1 hs1 hb1 k1
    simp_arith only [hs1', hs1]
    by_cases h1 : cur = 0
    · simp_arith only [h1, beq_self_eq_true, hs1', hs1, hb1']
      simp_arith only [hs1', hs1, hb1', eqD_ints_nil]
      cases bigs with
      | nil =>
        simp_arith only [List.isEmpty_nil]
        rw [SW_nil]
        exact ⟨rfl, by rw [h1] at *; exact dn⟩
      | cons x xs =>
        simp_arith only [List.isEmpty_cons]
        rw [SW_cons]
        simp_arith only [hs1', hs1, hb1', hb1]
        have e0 : ∀ n : Nat, ixN (n + 1) 0 = some 0 := fun n => ixN_lit (by decide) (by omega)
        rw [e0]
        simp only [List.getElem?_cons_zero]
        rw [if_pos ⟨by decide, by decide⟩, RW_ok]
        have q1 : (Ω1.set b (Ob.lst ((D.int x :: List.map D.int xs).eraseIdx 0)))[s]? = some (Ob.lst [D.hd b, D.int cur, D.lst (List.map D.int sm), D.int (cnt + 1)]) := by rw [List.getElem?_set_ne (Ne.symm hne)]; exact hs1
        simp_arith only [q1]
        rw [SW_nil]
        refine ⟨rfl, hP x xs _ (set_get q1) ?_ ⟨?_, fun i hi h1 h2 => ?_⟩⟩
        · rw [List.getElem?_set_ne hne, set_get hb1]
          rfl
        · rw [List.length_set, List.length_set]; exact k1.len
        · rw [List.getElem?_set_ne (Ne.symm h1), List.getElem?_set_ne (Ne.symm h2)]; exact k1.at_ i hi h1 h2
    · rw [if_neg (by simpa using h1)]
      simp_arith only []
      rw [SW_nil]
      exact ⟨rfl, dn⟩
  refine SW.mono (cut (fun Ω2 => SW (exL ft _ [some (D.hd s), some (D.int m), none, none, none, none] Ω2) _ _) fun cur bigs Ω2 hs2 hb2 k2 => ?_) (fun ρ Ω h => by obtain ⟨rfl, h⟩ := h; exact h) (fun _ _ h => False.elim h)
  clear cut hs1 hb1 k1 hs1' hb1' hs hb hs' st
  have hs2' := lk_hl Ω2 hs2
  have st2 : ∀ ob, (Ω2.set s ob)[s]? = some ob := fun ob => set_get hs2
  have m0 : 0 < m := hm
  have ml : m.natAbs.log2 < 9000 := by
    have h1 : m.natAbs < 2 ^ 60 := by omega
    have := (Nat.log2_lt (n := m.natAbs) (by omega) (k := 60)).mpr h1
    omega
  rw [SW_cons]
  simp_arith only [hs2', hs2]
  by_cases hcur : 0 < cur
  · rw [if_pos (by simpa using hcur), SW_cons]
    simp_arith only [hs2', hs2, mod_pos hm]
    rw [SW_cons]
    simp_arith only [hs2', hs2, divi, m0, ml, and_self]
    rw [SW_cons]
    simp_arith only []
    refine ⟨_, rfl, Int.emod_nonneg _ (by omega), Int.emod_lt_of_pos _ hm, ⟨bigs, _, sm, cnt + 1, st2 _, ?_, hne, by omega, by omega⟩, ?_⟩
    · rw [List.getElem?_set_ne hne]; exact hb2
    · exact k2.trans ⟨by rw [List.length_set]; exact Nat.le_refl _, fun i _ h1 _ => List.getElem?_set_ne (Ne.symm h1)⟩
  · rw [if_neg (by simpa using hcur), SW_nil, SW_cons]
    simp_arith only [hs2', hs2]
    simp_arith only [eqD_ints_nil]
    have nx : ∀ cell : Int, SW (exL ft (SL.drop 4 C.s__law_take) [some (D.hd s), some (D.int m), some (D.int cell), none, none, none] Ω2) (fun _ Ω' => ∃ v, D.non = .int v ∧ 0 ≤ v ∧ v < m ∧ Sp Ω' s b (c + 1) ∧ Kp s b Ω Ω') (fun d Ω' => ∃ v, d = .int v ∧ 0 ≤ v ∧ v < m ∧ Sp Ω' s b (c + 1) ∧ Kp s b Ω Ω') := by
      intro cell
      simp only [C.s__law_take, SL.drop]
      have c1 : (7907 : Int).natAbs < 2 ^ 490000 := Nat.lt_of_lt_of_le (show (7907 : Int).natAbs < 2 ^ 13 by decide) (Nat.pow_le_pow_right (by decide) (by decide))
      have p490 : ∀ n : Int, n.natAbs < 2 ^ 100 → n.natAbs < 2 ^ 490000 := fun n h => Nat.lt_of_lt_of_le h (Nat.pow_le_pow_right (by decide) (by decide))
      have hcn : (cnt + 1).natAbs < 2 ^ 100 := by omega
      rw [SW_cons]
      simp_arith only [hs2', hs2, mod_pos (j := 1000003) (by decide), mul_small (i := 7907) (p490 _ (by decide)) (p490 _ hcn)]
      have hp : (cell % 1000003 + 7907 * (cnt + 1) + 11).natAbs < 2 ^ 64 := by
        have h1 := Int.emod_nonneg cell (b := 1000003) (by decide)
        have h2 := Int.emod_lt_of_pos cell (b := 1000003) (by decide)
        omega
      rw [powi, if_pos ⟨by decide, by decide, hp⟩]
      · simp_arith only [mod_pos (j := 2147483629) (by decide)]
        rw [SW_cons]
        have e1 : ∀ z : Int, (z % 2147483629).natAbs < 2 ^ 100 := fun z => by
          have := Int.emod_nonneg z (b := 2147483629) (by decide)
          have := Int.emod_lt_of_pos z (b := 2147483629) (by decide)
          omega
        have e2 : ∀ z : Int, (z % 2147483587).natAbs < 2 ^ 100 := fun z => by
          have := Int.emod_nonneg z (b := 2147483587) (by decide)
          have := Int.emod_lt_of_pos z (b := 2147483587) (by decide)
          omega
        simp_arith only [hs2', hs2, mod_pos (j := 2147483587) (by decide), mul_small (i := 6007) (p490 _ (by decide)) (p490 _ hcn), mul_small (j := 48271) (p490 _ (e1 _)) (p490 _ (by decide))]
        rw [SW_cons]
        simp_arith only [hs2', hs2, mod_pos (j := 1000000007) (by decide), mul_small (j := 69621) (p490 _ (e2 _)) (p490 _ (by decide)), div_small (j := 5) (by decide) (Nat.lt_of_lt_of_le (show (5 : Int).natAbs < 2 ^ 3 by decide) (Nat.pow_le_pow_right (by decide) (by decide))), mod_pos hm]
        exact ⟨_, rfl, Int.emod_nonneg _ (by omega), Int.emod_lt_of_pos _ hm, ⟨bigs, _, sm, cnt + 1, hs2, hb2, hne, by omega, by omega⟩, k2⟩
    cases sm with
    | nil =>
      simp_arith only [List.isEmpty_nil, hs2', hs2]
      rw [mul_small (i := 13) (Nat.lt_of_lt_of_le (show (13 : Int).natAbs < 2 ^ 13 by decide) (Nat.pow_le_pow_right (by decide) (by decide))) (Nat.lt_of_lt_of_le (show (cnt + 1).natAbs < 2 ^ 100 by omega) (Nat.pow_le_pow_right (by decide) (by decide)))]
      simp_arith only []
      exact nx _
    | cons z zs =>
      simp_arith only [List.isEmpty_cons, hs2', hs2, List.length_map]
      rw [mod_pos (by omega)]
      simp_arith only []
      have g1 := Int.emod_nonneg (cnt + 1) (b := ((zs.length + 1 : Nat) : Int)) (by omega)
      have g2 := Int.emod_lt_of_pos (cnt + 1) (b := ((zs.length + 1 : Nat) : Int)) (by omega)
      have g3 : ∃ v, atI (D.int z :: List.map D.int zs) ((cnt + 1) % ((zs.length + 1 : Nat) : Int)) = some (D.int v) := by
        unfold atI
        rw [ixN_lit g1 (by simpa using g2)]
        have : ((cnt + 1) % ((zs.length + 1 : Nat) : Int)).toNat < (z :: zs).length := by simp only [List.length_cons]; omega
        refine ⟨(z :: zs)[((cnt + 1) % ((zs.length + 1 : Nat) : Int)).toNat], ?_⟩
        show (List.map D.int (z :: zs))[_]? = _
        rw [List.getElem?_map, List.getElem?_eq_getElem this]
        rfl
      obtain ⟨v, g3⟩ := g3
      rw [g3]
      simp_arith only []
      exact nx _
end Rf
end
section
namespace Rf
open PySem L2
/-! ### loops -/
section
variable {ft : FT} {ρ : Env} {Ω : Sto} {N : Env → Sto → Prop} {q : D → Sto → Prop}
theorem whl_go {test : Env → Sto → R Bool} {body : Env → Sto → RS} (I : Nat → Env → Sto → Prop)
    (step : ∀ n ρ Ω, I n ρ Ω → RW (test ρ Ω) fun b Ω => if b = true then SW (body ρ Ω) (fun ρ' Ω' => ∃ m, m < n ∧ I m ρ' Ω') q else N ρ Ω) :
    ∀ (k n : Nat) (ρ : Env) (Ω : Sto), n < k → I n ρ Ω → SW (whlD test body k ρ Ω) N q := by
  intro k
  induction k with
  | zero => intro n ρ Ω h; exact absurd h (Nat.not_lt_zero _)
  | succ k ih =>
    intro n ρ Ω hn hI
    rw [whlD, SW_st]
    refine (step n ρ Ω hI).mono fun b Ω1 hb => ?_
    cases b with
    | false => exact hb
    | true =>
      have hb : SW (body ρ Ω1) (fun ρ' Ω' => ∃ m, m < n ∧ I m ρ' Ω') q := hb
      show SW (match body ρ Ω1 with | .ok (.nx ρ') Ω' => whlD test body k ρ' Ω' | .ok (.ct ρ') Ω' => whlD test body k ρ' Ω' | .ok (.bk ρ') Ω' => .ok (.nx ρ') Ω' | r => r) N q
      cases e : body ρ Ω1 with
      | ok f Ω2 =>
        rw [e] at hb
        cases f with
        | nx ρ' => obtain ⟨m, hm, hi⟩ := hb; exact ih m ρ' Ω2 (by omega) hi
        | rt d => exact hb
        | bk ρ' => exact False.elim hb
        | ct ρ' => exact False.elim hb
      | ex x ρ' Ω2 => rw [e] at hb; exact False.elim hb
      | bad => rw [e] at hb; exact False.elim hb
theorem whl_of {c : E} {b : SL} (I : Nat → Env → Sto → Prop) (n : Nat) (hn : n < fuel) (h0 : I n ρ Ω)
    (step : ∀ n ρ Ω, I n ρ Ω → RW (evT ft c ρ Ω) fun t Ω => if t = true then SW (exL ft b ρ Ω) (fun ρ' Ω' => ∃ m, m < n ∧ I m ρ' Ω') q else N ρ Ω) : SW (exS ft (.whl c b) ρ Ω) N q := by
  rw [exS]
  exact whl_go I step fuel n ρ Ω hn h0
theorem for_go {turn : D → Env → Sto → RS} (I : Nat → Env → Sto → Prop) : ∀ (xs : List D) (j : Nat) (ρ : Env) (Ω : Sto), (∀ i x ρ Ω, xs[i]? = some x → I (j + i) ρ Ω → SW (turn x ρ Ω) (I (j + i + 1)) q) → (∀ ρ Ω, I (j + xs.length) ρ Ω → N ρ Ω) → I j ρ Ω → SW (forD turn xs ρ Ω) N q
  | [], j, ρ, Ω, _, fin, h => fin ρ Ω h
  | x :: xs, j, ρ, Ω, step, fin, h => by
    have h1 := step 0 x ρ Ω rfl h
    show SW (match turn x ρ Ω with | .ok (.nx ρ') Ω' => forD turn xs ρ' Ω' | .ok (.ct ρ') Ω' => forD turn xs ρ' Ω' | .ok (.bk ρ') Ω' => .ok (.nx ρ') Ω' | r => r) N q
    cases e : turn x ρ Ω with
    | ok f Ω2 =>
      rw [e] at h1
      cases f with
      | nx ρ' =>
        refine for_go I xs (j + 1) ρ' Ω2 (fun i y ρ Ω hy hi => ?_) (fun ρ Ω hi => fin ρ Ω ?_) h1
        · have := step (i + 1) y ρ Ω (by simpa using hy) (by rw [show j + (i + 1) = j + 1 + i by omega]; exact hi)
          rw [show j + (i + 1) + 1 = j + 1 + i + 1 by omega] at this
          exact this
        · rw [List.length_cons, show j + (xs.length + 1) = j + 1 + xs.length by omega]; exact hi
      | rt d => exact h1
      | bk ρ' => exact False.elim h1
      | ct ρ' => exact False.elim h1
    | ex x ρ' Ω2 => rw [e] at h1; exact False.elim h1
    | bad => rw [e] at h1; exact False.elim h1
theorem for_of {turn : D → Env → Sto → RS} {xs : List D} (I : Nat → Env → Sto → Prop) (h0 : I 0 ρ Ω) (step : ∀ i x ρ Ω, xs[i]? = some x → I i ρ Ω → SW (turn x ρ Ω) (I (i + 1)) q) (fin : ∀ ρ Ω, I xs.length ρ Ω → N ρ Ω) : SW (forD turn xs ρ Ω) N q :=
  for_go I xs 0 ρ Ω (fun i x ρ Ω hx hi => by rw [Nat.zero_add] at hi ⊢; exact step i x ρ Ω hx hi) (fun ρ Ω hi => fin ρ Ω (by simpa using hi)) h0
theorem lc_go {turn : D → Sto → R (Option D)} {Q : List D → Sto → Prop} (I : Nat → List D → Sto → Prop) : ∀ (xs : List D) (j : Nat) (acc : List D) (Ω : Sto), acc.length + xs.length ≤ big →
    (∀ i x acc Ω, xs[i]? = some x → I (j + i) acc Ω → RW (turn x Ω) fun o Ω' => I (j + i + 1) (acc ++ o.toList) Ω') → (∀ acc Ω, I (j + xs.length) acc Ω → Q acc Ω) → I j acc Ω → RW (lcD turn xs acc Ω) Q
  | [], j, acc, Ω, _, _, fin, h => fin acc Ω h
  | x :: xs, j, acc, Ω, hb, step, fin, h => by
    have h1 := step 0 x acc Ω rfl h
    rw [lcD, RW_bind, RW_nx]
    refine h1.mono fun o Ω' ho => ?_
    have rest : ∀ acc' : List D, acc'.length + xs.length ≤ big → I (j + 1) acc' Ω' → RW (lcD turn xs acc' Ω') Q := fun acc' hl hi => by
      refine lc_go I xs (j + 1) acc' Ω' hl (fun i y ac Ω hy hi => ?_) (fun ac Ω hi => fin ac Ω ?_) hi
      · have := step (i + 1) y ac Ω (by simpa using hy) (by rw [show j + (i + 1) = j + 1 + i by omega]; exact hi)
        rw [show j + (i + 1) + 1 = j + 1 + i + 1 by omega] at this
        exact this
      · rw [List.length_cons, show j + (xs.length + 1) = j + 1 + xs.length by omega]; exact hi
    rw [List.length_cons] at hb
    cases o with
    | none => exact rest acc (by omega) (by simpa using ho)
    | some d =>
      show RW (if acc.length < big then lcD turn xs (acc ++ [d]) Ω' else .bad) Q
      rw [if_pos (by omega)]
      exact rest (acc ++ [d]) (by rw [List.length_append, List.length_singleton]; omega) ho
theorem lc_of {turn : D → Sto → R (Option D)} {Q : List D → Sto → Prop} {xs : List D} (I : Nat → List D → Sto → Prop) (hb : xs.length ≤ big) (h0 : I 0 [] Ω)
    (step : ∀ i x acc Ω, xs[i]? = some x → I i acc Ω → RW (turn x Ω) fun o Ω' => I (i + 1) (acc ++ o.toList) Ω') (fin : ∀ acc Ω, I xs.length acc Ω → Q acc Ω) : RW (lcD turn xs [] Ω) Q :=
  lc_go I xs 0 [] Ω (by simpa using hb) (fun i x acc Ω hx hi => by rw [Nat.zero_add] at hi ⊢; exact step i x acc Ω hx hi) (fun acc Ω hi => fin acc Ω (by simpa using hi)) h0
/-- nothing is drawn, nothing is changed -/
theorem lc_pure {turn : D → Sto → R (Option D)} {Q : List D → Sto → Prop} {xs : List D} (h : D → Option D) (hb : xs.length ≤ big) (e : ∀ x, x ∈ xs → RW (turn x Ω) fun o Ω' => o = h x ∧ Ω' = Ω) (fin : Q (xs.filterMap h) Ω) : RW (lcD turn xs [] Ω) Q := by
  refine lc_of (fun i acc Ω' => Ω' = Ω ∧ acc = (xs.take i).filterMap h) hb ⟨rfl, by simp⟩ (fun i x acc Ω' hx hi => ?_) (fun acc Ω' hi => ?_)
  · obtain ⟨rfl, rfl⟩ := hi
    refine (e x (List.mem_of_getElem? hx)).mono fun o Ω2 ho => ?_
    obtain ⟨rfl, rfl⟩ := ho
    refine ⟨rfl, ?_⟩
    rw [List.take_add_one, hx, List.filterMap_append]
    cases e2 : h x with
    | none => simp [e2]
    | some d => simp [e2]
  · obtain ⟨rfl, rfl⟩ := hi
    rw [List.take_length]
    exact fin
end
/-! ### fractions -/
def frac (r : Rat) : D := .tup [.int r.num, .int (r.den : Int)]
def sz (r : Rat) (k : Nat) : Prop := r.num.natAbs < 2 ^ k ∧ r.den < 2 ^ k
def LowS (g : List D → Sto → R D) : Prop := ∀ (t b : Int) Ω, 0 < b → t.natAbs < 2 ^ 400000 → b.natAbs < 2 ^ 8999 → g [.int t, .int b] Ω = .ok (frac (Rat.divInt t b)) Ω
theorem fuel_eq : fuel = 1000000 := rfl
/-- one turn of the way to the greatest common divisor -/
theorem gcd_step {a b : Int} {n : Nat} (ha : 0 ≤ a) (hb : 0 < b) (hab : b ≤ a) (hn : a * b < 2 ^ n) : ∃ m, m < n ∧ b * (a % b) < 2 ^ m := by
  have h1 := Int.emod_nonneg a (b := b) (by omega)
  have h2 := Int.emod_lt_of_pos a hb
  have h3 : a % b ≤ a - b := by
    have := Int.emod_add_mul_ediv a b
    have hq : 1 ≤ a / b := by
      rw [Int.le_ediv_iff_mul_le hb]; omega
    have : b * 1 ≤ b * (a / b) := Int.mul_le_mul_of_nonneg_left hq (by omega)
    omega
  cases n with
  | zero =>
    have : 1 * 1 ≤ a * b := Int.mul_le_mul (by omega) (by omega) (by omega) (by omega)
    simp at hn
    omega
  | succ n =>
    refine ⟨n, Nat.lt_succ_self n, ?_⟩
    have h4 : b * (a % b) * 2 < a * b := by
      have : b * (2 * (a % b)) < b * a := Int.mul_lt_mul_of_pos_left (by omega) hb
      have e1 : b * (a % b) * 2 = b * (2 * (a % b)) := by grind
      have e2 : a * b = b * a := Int.mul_comm a b
      omega
    rw [Int.pow_succ] at hn
    omega
theorem gcd_mod {x y : Int} (hx : 0 ≤ x) (hy : 0 ≤ y) : Int.gcd y (x % y) = Int.gcd x y := by
  unfold Int.gcd
  rw [Int.natAbs_emod_of_nonneg hx, Nat.gcd_comm x.natAbs, Nat.gcd_rec y.natAbs x.natAbs, Nat.gcd_comm]
theorem frac_divInt {t b : Int} (hb : 0 < b) : frac (Rat.divInt t b) = .tup [.int (t / (Int.gcd t b : Int)), .int (b / (Int.gcd t b : Int))] := by
  have e1 : (Rat.divInt t b).num = t / (Int.gcd t b : Int) := by
    rw [Rat.num_divInt, Int.sign_eq_one_of_pos hb, Int.one_mul, Int.gcd_comm]
  have e2 : ((Rat.divInt t b).den : Int) = b / (Int.gcd t b : Int) := by
    rw [Rat.den_divInt, if_neg (by omega), Int.gcd_comm]
    have hn : (b.natAbs : Int) = b := by omega
    rw [Int.natCast_ediv, hn]
  unfold frac
  rw [e1, e2]
theorem lawlow_ok (ft : FT) : LowS (runD ft 2 4 C.s__law_lowest) := by
  intro t b Ω hb ht hb2
  suffices h : ∃ d Ω', runD ft 2 4 C.s__law_lowest [.int t, .int b] Ω = .ok d Ω' ∧ (d = frac (Rat.divInt t b) ∧ Ω' = Ω) by
    obtain ⟨d, Ω', e, rfl, rfl⟩ := h
    exact e
  refine run_of rfl ?_
  show SW (exL ft C.s__law_lowest [some (.int t), some (.int b), none, none] Ω) _ _
  unfold C.s__law_lowest
  rw [SW_cons]
  simp_arith only []
  rw [SW_cons]
  have nat : (if t < 0 then -t else t) = (t.natAbs : Int) := by split <;> omega
  rw [nat]
  have g0 : Int.gcd (t.natAbs : Int) b = Int.gcd t b := by simp [Int.gcd]
  have gpos : 0 < Int.gcd t b := Int.gcd_pos_of_ne_zero_right _ (by omega)
  have gle : Int.gcd t b ≤ b.natAbs := Nat.le_of_dvd (by omega) (Int.gcd_dvd_natAbs_right t b)
  refine whl_of (fun n ρ Ω' => Ω' = Ω ∧ ∃ x y : Int, ρ = [some (.int t), some (.int b), some (.int x), some (.int y)] ∧ 0 ≤ x ∧ 0 ≤ y ∧ Int.gcd x y = Int.gcd t b ∧ ((y ≤ x ∧ x * y < 2 ^ n) ∨ (x < y ∧ ∃ m, n = m + 1 ∧ x * y < 2 ^ m))) 410000 (by rw [fuel_eq]; decide) ?_ ?_
  · refine ⟨rfl, _, b, rfl, by omega, by omega, g0, ?_⟩
    have bound : (t.natAbs : Int) * b < 2 ^ 409999 := by
      have h1 := Nat.mul_lt_mul'' ht hb2
      rw [← Nat.pow_add] at h1
      have h2 : t.natAbs * b.natAbs < 2 ^ 409999 := Nat.lt_of_lt_of_le h1 (Nat.pow_le_pow_right (by decide) (by decide))
      have h3 : (t.natAbs : Int) * b = ((t.natAbs * b.natAbs : Nat) : Int) := by
        rw [Int.natCast_mul]
        congr 1
        omega
      rw [h3]
      exact_mod_cast h2
    by_cases h : b ≤ (t.natAbs : Int)
    · exact .inl ⟨h, by rw [show (410000 : Nat) = 409999 + 1 from rfl, Int.pow_succ]; omega⟩
    · exact .inr ⟨by omega, 409999, rfl, bound⟩
  · rintro n ρ Ω' ⟨rfl, x, y, rfl, hx, hy, hg, hm⟩
    simp_arith only []
    by_cases h : 0 < y
    · rw [if_pos (by simpa using h), SW_cons]
      simp_arith only [mod_pos h]
      rw [SW_nil]
      have h1 := Int.emod_nonneg x (b := y) (by omega)
      have h2 := Int.emod_lt_of_pos x h
      have hg2 : Int.gcd y (x % y) = Int.gcd t b := by rw [← hg]; exact gcd_mod hx hy
      rcases hm with ⟨h3, h4⟩ | ⟨h3, m, h4, h5⟩
      · obtain ⟨m, hm, h6⟩ := gcd_step hx h h3 h4
        exact ⟨m, hm, rfl, y, x % y, rfl, hy, h1, hg2, .inl ⟨by omega, h6⟩⟩
      · have e : x % y = x := Int.emod_eq_of_lt hx h3
        rw [e] at hg2 ⊢
        exact ⟨m, by omega, rfl, y, x, rfl, hy, hx, hg2, .inl ⟨by omega, by rw [Int.mul_comm]; exact h5⟩⟩
    · rw [if_neg (by simpa using h)]
      have hy0 : y = 0 := by omega
      subst hy0
      have ex : x = (Int.gcd t b : Int) := by
        rw [← hg]; simp [Int.gcd]; omega
      have xpos : 0 < x := by rw [ex]; exact_mod_cast gpos
      have xle : x.natAbs < 2 ^ 8999 := by
        rw [ex]
        exact Nat.lt_of_le_of_lt (by simpa using gle) hb2
      rw [SW_cons]
      simp_arith only [div_small xpos xle]
      exact ⟨by rw [frac_divInt hb, ex], trivial⟩
end Rf
end
section
namespace Rf
open PySem L2
def LowZ (g : List D → Sto → R D) : Prop := ∀ (t b : Int) Ω, b ≠ 0 → t.natAbs < 2 ^ 400000 → b.natAbs < 2 ^ 8999 → g [.int t, .int b] Ω = .ok (frac (Rat.divInt t b)) Ω
theorem LowZ.s {g : List D → Sto → R D} (h : LowZ g) : LowS g := fun t b Ω hb => h t b Ω (by omega)
theorem sign_nat {b : Int} (hb : b ≠ 0) : b.sign * b = (b.natAbs : Int) := by
  by_cases h : 0 < b
  · rw [Int.sign_eq_one_of_pos h]; omega
  · rw [Int.sign_eq_neg_one_of_neg (by omega)]; omega
theorem frac_divZ {t b : Int} (hb : b ≠ 0) : frac (Rat.divInt t b) = .tup [.int (b.sign * t / (Int.gcd t b : Int)), .int (b.sign * b / (Int.gcd t b : Int))] := by
  have e1 : (Rat.divInt t b).num = b.sign * t / (Int.gcd t b : Int) := by rw [Rat.num_divInt, Int.gcd_comm]
  have e2 : ((Rat.divInt t b).den : Int) = b.sign * b / (Int.gcd t b : Int) := by
    rw [Rat.den_divInt, if_neg hb, Int.gcd_comm, Int.natCast_ediv, sign_nat hb]
  unfold frac
  rw [e1, e2]
theorem low_ok (ft : FT) : LowZ (runD ft 2 5 C.s_lowest) := by
  intro t b Ω hb ht hb2
  suffices h : ∃ d Ω', runD ft 2 5 C.s_lowest [.int t, .int b] Ω = .ok d Ω' ∧ (d = frac (Rat.divInt t b) ∧ Ω' = Ω) by
    obtain ⟨d, Ω', e, rfl, rfl⟩ := h
    exact e
  refine run_of rfl ?_
  show SW (exL ft C.s_lowest [some (.int t), some (.int b), none, none, none] Ω) _ _
  unfold C.s_lowest
  rw [SW_cons]
  simp_arith only []
  rw [SW_cons]
  have nat : (if t < 0 then -t else t) = (t.natAbs : Int) := by split <;> omega
  have nat2 : (if b < 0 then -b else b) = (b.natAbs : Int) := by split <;> omega
  rw [nat, nat2]
  have g0 : Int.gcd (t.natAbs : Int) (b.natAbs : Int) = Int.gcd t b := by simp [Int.gcd]
  have gpos : 0 < Int.gcd t b := Int.gcd_pos_of_ne_zero_right _ hb
  have gle : Int.gcd t b ≤ b.natAbs := Nat.le_of_dvd (by omega) (Int.gcd_dvd_natAbs_right t b)
  refine whl_of (fun n ρ Ω' => Ω' = Ω ∧ ∃ x y : Int, ρ = [some (.int t), some (.int b), none, some (.int x), some (.int y)] ∧ 0 ≤ x ∧ 0 ≤ y ∧ Int.gcd x y = Int.gcd t b ∧ ((y ≤ x ∧ x * y < 2 ^ n) ∨ (x < y ∧ ∃ m, n = m + 1 ∧ x * y < 2 ^ m))) 410000 (by rw [fuel_eq]; decide) ?_ ?_
  · refine ⟨rfl, _, _, rfl, by omega, by omega, g0, ?_⟩
    have bound : (t.natAbs : Int) * (b.natAbs : Int) < 2 ^ 409999 := by
      have h1 := Nat.mul_lt_mul'' ht hb2
      rw [← Nat.pow_add] at h1
      have h2 : t.natAbs * b.natAbs < 2 ^ 409999 := Nat.lt_of_lt_of_le h1 (Nat.pow_le_pow_right (by decide) (by decide))
      exact_mod_cast h2
    by_cases h : (b.natAbs : Int) ≤ (t.natAbs : Int)
    · exact .inl ⟨h, by rw [show (410000 : Nat) = 409999 + 1 from rfl, Int.pow_succ]; omega⟩
    · exact .inr ⟨by omega, 409999, rfl, bound⟩
  · rintro n ρ Ω' ⟨rfl, x, y, rfl, hx, hy, hg, hm⟩
    simp_arith only []
    by_cases h : 0 < y
    · rw [if_pos (by simpa using h), SW_cons]
      simp_arith only [mod_pos h]
      rw [SW_nil]
      have h1 := Int.emod_nonneg x (b := y) (by omega)
      have h2 := Int.emod_lt_of_pos x h
      have hg2 : Int.gcd y (x % y) = Int.gcd t b := by rw [← hg]; exact gcd_mod hx hy
      rcases hm with ⟨h3, h4⟩ | ⟨h3, m, h4, h5⟩
      · obtain ⟨m, hm, h6⟩ := gcd_step hx h h3 h4
        exact ⟨m, hm, rfl, y, x % y, rfl, hy, h1, hg2, .inl ⟨by omega, h6⟩⟩
      · have e : x % y = x := Int.emod_eq_of_lt hx h3
        rw [e] at hg2 ⊢
        exact ⟨m, by omega, rfl, y, x, rfl, hy, hx, hg2, .inl ⟨by omega, by rw [Int.mul_comm]; exact h5⟩⟩
    · rw [if_neg (by simpa using h)]
      have hy0 : y = 0 := by omega
      subst hy0
      have ex : x = (Int.gcd t b : Int) := by
        rw [← hg]; simp [Int.gcd]; omega
      have xpos : 0 < x := by rw [ex]; exact_mod_cast gpos
      have xle : x.natAbs < 2 ^ 8999 := by
        rw [ex]
        exact Nat.lt_of_le_of_lt (by simpa using gle) hb2
      have ht' : t.natAbs < 2 ^ 490000 := Nat.lt_of_lt_of_le ht (Nat.pow_le_pow_right (by decide) (by decide))
      have hb' : b.natAbs < 2 ^ 490000 := Nat.lt_of_lt_of_le hb2 (Nat.pow_le_pow_right (by decide) (by decide))
      have one : ∀ z : Int, z.natAbs = 1 → z.natAbs < 2 ^ 490000 := fun z hz => by rw [hz]; exact Nat.one_lt_two_pow (by decide)
      rw [SW_cons]
      simp_arith only []
      by_cases hp : 0 < b
      · simp_arith only [hp, decide_true, if_true]
        rw [SW_cons]
        simp_arith only [mul_small (one 1 rfl) ht', mul_small (one 1 rfl) hb', div_small xpos xle]
        refine ⟨?_, trivial⟩
        rw [frac_divZ hb, ex, Int.sign_eq_one_of_pos hp]
      · simp_arith only [hp, decide_false, Bool.false_eq_true, if_false]
        rw [SW_cons]
        simp_arith only [mul_small (one (-1) rfl) ht', mul_small (one (-1) rfl) hb', div_small xpos xle]
        refine ⟨?_, trivial⟩
        rw [frac_divZ hb, ex, Int.sign_eq_neg_one_of_neg (by omega)]
/-! ### sums, differences, products -/
theorem sz.mono {r : Rat} {k l : Nat} (h : sz r k) (hl : k ≤ l) : sz r l := ⟨Nat.lt_of_lt_of_le h.1 (Nat.pow_le_pow_right (by decide) hl), Nat.lt_of_lt_of_le h.2 (Nat.pow_le_pow_right (by decide) hl)⟩
def BinS (op : Rat → Rat → Rat) (g : List D → Sto → R D) : Prop := ∀ x y Ω k l, sz x k → sz y l → k + l ≤ 8990 → g [frac x, frac y] Ω = .ok (frac (op x y)) Ω
theorem rat_add (x y : Rat) : Rat.divInt (x.num * (y.den : Int) + y.num * (x.den : Int)) ((x.den : Int) * (y.den : Int)) = x + y := by
  conv => rhs; rw [← Rat.num_divInt_den x, ← Rat.num_divInt_den y]
  rw [Rat.divInt_add_divInt _ _ (by have := x.den_pos; omega) (by have := y.den_pos; omega)]
theorem rat_sub (x y : Rat) : Rat.divInt (x.num * (y.den : Int) - y.num * (x.den : Int)) ((x.den : Int) * (y.den : Int)) = x - y := by
  conv => rhs; rw [← Rat.num_divInt_den x, ← Rat.num_divInt_den y]
  rw [Rat.divInt_sub_divInt _ _ (by have := x.den_pos; omega) (by have := y.den_pos; omega)]
theorem rat_mul (x y : Rat) : Rat.divInt (x.num * y.num) ((x.den : Int) * (y.den : Int)) = x * y := by
  conv => rhs; rw [← Rat.num_divInt_den x, ← Rat.num_divInt_den y]
  rw [Rat.divInt_mul_divInt]
theorem nat_mul_lt {a b k l : Nat} (ha : a < 2 ^ k) (hb : b < 2 ^ l) : a * b < 2 ^ (k + l) := by
  rw [Nat.pow_add]; exact Nat.mul_lt_mul'' ha hb
theorem up4 {a k : Nat} (h : a < 2 ^ k) (hk : k ≤ 490000) : a < 2 ^ 490000 := Nat.lt_of_lt_of_le h (Nat.pow_le_pow_right (by decide) hk)
section
variable {ft : FT} {x y : Rat} {k l : Nat}
theorem sz_nd (hx : sz x k) (hy : sz y l) (h : k + l ≤ 8990) : op2D .Mult (.int x.num) (.int (y.den : Int)) = some (.int (x.num * (y.den : Int))) := mul_small (up4 hx.1 (by omega)) (up4 (by simpa using hy.2) (by omega))
theorem sz_nn (hx : sz x k) (hy : sz y l) (h : k + l ≤ 8990) : op2D .Mult (.int x.num) (.int y.num) = some (.int (x.num * y.num)) := mul_small (up4 hx.1 (by omega)) (up4 hy.1 (by omega))
theorem sz_dd (hx : sz x k) (hy : sz y l) (h : k + l ≤ 8990) : op2D .Mult (.int (x.den : Int)) (.int (y.den : Int)) = some (.int ((x.den : Int) * (y.den : Int))) := mul_small (up4 (by simpa using hx.2) (by omega)) (up4 (by simpa using hy.2) (by omega))
theorem dd_lt (hx : sz x k) (hy : sz y l) (h : k + l ≤ 8990) : ((x.den : Int) * (y.den : Int)).natAbs < 2 ^ 8999 := by
  rw [Int.natAbs_mul]
  exact Nat.lt_of_lt_of_le (nat_mul_lt hx.2 hy.2) (Nat.pow_le_pow_right (by decide) (by omega))
theorem dd_pos : 0 < (x.den : Int) * (y.den : Int) := Int.mul_pos (by have := x.den_pos; omega) (by have := y.den_pos; omega)
theorem nd_lt (hx : sz x k) (hy : sz y l) : (x.num * (y.den : Int)).natAbs < 2 ^ (k + l) := by rw [Int.natAbs_mul]; exact nat_mul_lt hx.1 hy.2
theorem nn_lt (hx : sz x k) (hy : sz y l) : (x.num * y.num).natAbs < 2 ^ (k + l) := by rw [Int.natAbs_mul]; exact nat_mul_lt hx.1 hy.1
theorem two_lt {a b n : Nat} (ha : a < 2 ^ n) (hb : b < 2 ^ n) : a + b < 2 ^ (n + 1) := by rw [Nat.pow_succ]; omega
theorem add_lt (hx : sz x k) (hy : sz y l) : (x.num * (y.den : Int) + y.num * (x.den : Int)).natAbs < 2 ^ (k + l + 1) := by
  have h1 := nd_lt hx hy
  have h2 := nd_lt hy hx
  rw [Nat.add_comm l k] at h2
  exact Nat.lt_of_le_of_lt (Int.natAbs_add_le _ _) (two_lt h1 h2)
theorem sub_lt (hx : sz x k) (hy : sz y l) : (x.num * (y.den : Int) - y.num * (x.den : Int)).natAbs < 2 ^ (k + l + 1) := by
  have h1 := nd_lt hx hy
  have h2 := nd_lt hy hx
  rw [Nat.add_comm l k] at h2
  exact Nat.lt_of_le_of_lt (Int.natAbs_sub_le _ _) (two_lt h1 h2)
theorem up5 {a n : Nat} (h : a < 2 ^ n) (hn : n ≤ 8995) : a < 2 ^ 400000 := Nat.lt_of_lt_of_le h (Nat.pow_le_pow_right (by decide) (by omega))
theorem lawplus_ok (h : Has ft "_law_lowest" LowS) (hd : ft.dfl "_law_lowest" = []) : BinS (· + ·) (runD ft 2 2 C.s__law_plus) := by
  intro x y Ω k l hx hy hk
  suffices h : ∃ d Ω', runD ft 2 2 C.s__law_plus [frac x, frac y] Ω = .ok d Ω' ∧ (d = frac (x + y) ∧ Ω' = Ω) by
    obtain ⟨d, Ω', e, rfl, rfl⟩ := h
    exact e
  refine run_of rfl ?_
  show SW (exL ft C.s__law_plus [some (frac x), some (frac y)] Ω) _ _
  unfold C.s__law_plus frac
  rw [SW_cons]
  simp_arith only [sz_nd hx hy hk, sz_nd hy hx (by omega), sz_dd hx hy hk, hd]
  refine call_of h fun g hg => ⟨_, _, hg _ _ _ dd_pos (up5 (add_lt hx hy) (by omega)) (dd_lt hx hy hk), ?_⟩
  simp_arith only []
  exact ⟨by rw [rat_add]; rfl, trivial⟩
theorem lawminus_ok (h : Has ft "_law_lowest" LowS) (hd : ft.dfl "_law_lowest" = []) : BinS (· - ·) (runD ft 2 2 C.s__law_minus) := by
  intro x y Ω k l hx hy hk
  suffices h : ∃ d Ω', runD ft 2 2 C.s__law_minus [frac x, frac y] Ω = .ok d Ω' ∧ (d = frac (x - y) ∧ Ω' = Ω) by
    obtain ⟨d, Ω', e, rfl, rfl⟩ := h
    exact e
  refine run_of rfl ?_
  show SW (exL ft C.s__law_minus [some (frac x), some (frac y)] Ω) _ _
  unfold C.s__law_minus frac
  rw [SW_cons]
  simp_arith only [sz_nd hx hy hk, sz_nd hy hx (by omega), sz_dd hx hy hk, hd]
  refine call_of h fun g hg => ⟨_, _, hg _ _ _ dd_pos (up5 (sub_lt hx hy) (by omega)) (dd_lt hx hy hk), ?_⟩
  simp_arith only []
  exact ⟨by rw [rat_sub]; rfl, trivial⟩
theorem lawtimes_ok (h : Has ft "_law_lowest" LowS) (hd : ft.dfl "_law_lowest" = []) : BinS (· * ·) (runD ft 2 2 C.s__law_times) := by
  intro x y Ω k l hx hy hk
  suffices h : ∃ d Ω', runD ft 2 2 C.s__law_times [frac x, frac y] Ω = .ok d Ω' ∧ (d = frac (x * y) ∧ Ω' = Ω) by
    obtain ⟨d, Ω', e, rfl, rfl⟩ := h
    exact e
  refine run_of rfl ?_
  show SW (exL ft C.s__law_times [some (frac x), some (frac y)] Ω) _ _
  unfold C.s__law_times frac
  rw [SW_cons]
  simp_arith only [sz_nn hx hy hk, sz_dd hx hy hk, hd]
  refine call_of h fun g hg => ⟨_, _, hg _ _ _ dd_pos (up5 (nn_lt hx hy) (by omega)) (dd_lt hx hy hk), ?_⟩
  simp_arith only []
  exact ⟨by rw [rat_mul]; rfl, trivial⟩
theorem minus_ok (h : Has ft "lowest" LowS) (hd : ft.dfl "lowest" = []) : BinS (· - ·) (runD ft 2 2 C.s_minus) := by
  intro x y Ω k l hx hy hk
  suffices h : ∃ d Ω', runD ft 2 2 C.s_minus [frac x, frac y] Ω = .ok d Ω' ∧ (d = frac (x - y) ∧ Ω' = Ω) by
    obtain ⟨d, Ω', e, rfl, rfl⟩ := h
    exact e
  refine run_of rfl ?_
  show SW (exL ft C.s_minus [some (frac x), some (frac y)] Ω) _ _
  unfold C.s_minus frac
  rw [SW_cons]
  simp_arith only [sz_nd hx hy hk, sz_nd hy hx (by omega), sz_dd hx hy hk, hd]
  refine call_of h fun g hg => ⟨_, _, hg _ _ _ dd_pos (up5 (sub_lt hx hy) (by omega)) (dd_lt hx hy hk), ?_⟩
  simp_arith only []
  exact ⟨by rw [rat_sub]; rfl, trivial⟩
theorem times_ok (h : Has ft "lowest" LowS) (hd : ft.dfl "lowest" = []) : BinS (· * ·) (runD ft 2 2 C.s_times) := by
  intro x y Ω k l hx hy hk
  suffices h : ∃ d Ω', runD ft 2 2 C.s_times [frac x, frac y] Ω = .ok d Ω' ∧ (d = frac (x * y) ∧ Ω' = Ω) by
    obtain ⟨d, Ω', e, rfl, rfl⟩ := h
    exact e
  refine run_of rfl ?_
  show SW (exL ft C.s_times [some (frac x), some (frac y)] Ω) _ _
  unfold C.s_times frac
  rw [SW_cons]
  simp_arith only [sz_nn hx hy hk, sz_dd hx hy hk, hd]
  refine call_of h fun g hg => ⟨_, _, hg _ _ _ dd_pos (up5 (nn_lt hx hy) (by omega)) (dd_lt hx hy hk), ?_⟩
  simp_arith only []
  exact ⟨by rw [rat_mul]; rfl, trivial⟩
end
end Rf
end
section
namespace Rf
open PySem L2
/-! ### how great they get -/
theorem sz_divInt {t b : Int} {n : Nat} (hb : 0 < b) (h1 : t.natAbs < 2 ^ n) (h2 : b.natAbs < 2 ^ n) : sz (Rat.divInt t b) n := by
  constructor
  · rw [Rat.num_divInt, Int.sign_eq_one_of_pos hb, Int.one_mul]
    have := Int.natAbs_ediv_le_natAbs t (b.gcd t : Int)
    omega
  · rw [Rat.den_divInt, if_neg (by omega)]
    exact Nat.lt_of_le_of_lt (Nat.div_le_self _ _) h2
theorem sz_add {x y : Rat} {k l : Nat} (hx : sz x k) (hy : sz y l) : sz (x + y) (k + l + 1) := by
  rw [← rat_add]
  refine sz_divInt dd_pos (add_lt hx hy) ?_
  rw [Int.natAbs_mul]
  exact Nat.lt_of_lt_of_le (nat_mul_lt hx.2 hy.2) (Nat.pow_le_pow_right (by decide) (by omega))
theorem sz_sub {x y : Rat} {k l : Nat} (hx : sz x k) (hy : sz y l) : sz (x - y) (k + l + 1) := by
  rw [← rat_sub]
  refine sz_divInt dd_pos (sub_lt hx hy) ?_
  rw [Int.natAbs_mul]
  exact Nat.lt_of_lt_of_le (nat_mul_lt hx.2 hy.2) (Nat.pow_le_pow_right (by decide) (by omega))
theorem sz_mul {x y : Rat} {k l : Nat} (hx : sz x k) (hy : sz y l) : sz (x * y) (k + l) := by
  rw [← rat_mul]
  refine sz_divInt dd_pos (nn_lt hx hy) ?_
  rw [Int.natAbs_mul]
  exact nat_mul_lt hx.2 hy.2
theorem sz_one : sz 1 1 := by constructor <;> decide
theorem sz_zero : sz 0 1 := by constructor <;> decide
theorem frac_one : frac 1 = .tup [.int 1, .int 1] := rfl
theorem frac_zero : frac 0 = .tup [.int 0, .int 1] := rfl
/-- the product -/
def prod : List Rat → Rat
  | [] => 1
  | r :: rs => r * prod rs
theorem prod_snoc (rs : List Rat) (r : Rat) : prod (rs ++ [r]) = prod rs * r := by
  induction rs with
  | nil => simp [prod]
  | cons x rs ih => simp only [List.cons_append, prod, ih]; grind
theorem sz_prod {k : Nat} : ∀ {rs : List Rat}, (∀ r ∈ rs, sz r k) → sz (prod rs) (rs.length * k + 1)
  | [], _ => by simpa [prod] using sz_one
  | r :: rs, h => by
    have h1 := sz_mul (h r (List.mem_cons_self ..)) (sz_prod fun x hx => h x (List.mem_cons_of_mem _ hx))
    refine sz.mono h1 ?_
    rw [List.length_cons, Nat.add_mul]
    omega
def ProdS (g : List D → Sto → R D) : Prop := ∀ (rs : List Rat) k Ω, (∀ r ∈ rs, sz r k) → rs.length * k ≤ 4000 → k ≤ 4000 → g [.lst (rs.map frac)] Ω = .ok (frac (prod rs)) Ω
theorem product_ok {ft : FT} (h : Has ft "_law_times" (BinS (· * ·))) (hd : ft.dfl "_law_times" = []) : ProdS (runD ft 1 3 C.s__law_product) := by
  intro rs k Ω hr hk hk2
  suffices h : ∃ d Ω', runD ft 1 3 C.s__law_product [.lst (rs.map frac)] Ω = .ok d Ω' ∧ (d = frac (prod rs) ∧ Ω' = Ω) by
    obtain ⟨d, Ω', e, rfl, rfl⟩ := h
    exact e
  refine run_of rfl ?_
  show SW (exL ft C.s__law_product [some (.lst (rs.map frac)), none, none] Ω) _ _
  unfold C.s__law_product
  rw [SW_cons]
  simp_arith only []
  rw [SW_cons]
  simp_arith only [iterD, seqD]
  refine for_of (fun i ρ Ω' => Ω' = Ω ∧ ∃ z, ρ = [some (.lst (rs.map frac)), some (frac (prod (rs.take i))), z]) ⟨rfl, _, rfl⟩ (fun i x ρ Ω' hx hi => ?_) (fun ρ Ω' hi => ?_)
  · obtain ⟨rfl, z, rfl⟩ := hi
    rw [List.getElem?_map] at hx
    cases e : rs[i]? with
    | none => rw [e] at hx; cases hx
    | some r =>
      rw [e] at hx
      cases hx
      have hi : i < rs.length := (List.getElem?_eq_some_iff.mp e).1
      rw [SW_cons]
      simp_arith only [hd]
      have s1 : sz (prod (rs.take i)) ((rs.take i).length * k + 1) := sz_prod fun x hx => hr x (List.mem_of_mem_take hx)
      have s2 := hr r (List.mem_of_getElem? e)
      refine call_of h fun g hg => ⟨_, _, hg _ _ _ _ _ s1 s2 ?_, ?_⟩
      · have : (rs.take i).length * k ≤ rs.length * k := Nat.mul_le_mul_right k (by rw [List.length_take]; omega)
        omega
      · simp_arith only []
        rw [SW_nil]
        exact ⟨rfl, _, by rw [List.take_add_one, e]; simp only [Option.toList_some, prod_snoc]; rfl⟩
  · obtain ⟨rfl, z, rfl⟩ := hi
    rw [List.length_map, List.take_length, SW_cons]
    simp_arith only []
    exact ⟨trivial, trivial⟩
/-! ### good data: what == may look at -/
def GD (d : D) : Prop := ∃ p, toPy d = some p ∧ p.canLay0 = true ∧ p.depth ≤ 50
theorem GD_int (i : Int) : GD (.int i) := ⟨_, rfl, by simp [PyData.canLay0], by simp [PyData.depth]⟩
theorem toPys_good : ∀ {xs : List D}, (∀ x ∈ xs, GD x) → ∃ ps, toPys xs = some ps ∧ PyData.canLayAll0 ps = true ∧ PyData.depthAll ps ≤ 50 ∧ ps.length = xs.length
  | [], _ => ⟨[], rfl, by simp [PyData.canLayAll0], by simp [PyData.depthAll], rfl⟩
  | x :: xs, h => by
    obtain ⟨p, e1, e2, e3⟩ := h x (List.mem_cons_self ..)
    obtain ⟨ps, f1, f2, f3, f4⟩ := toPys_good fun y hy => h y (List.mem_cons_of_mem _ hy)
    refine ⟨p :: ps, ?_, by simp [PyData.canLayAll0, e2, f2], ?_, by simp [f4]⟩
    · show (match toPy x, toPys xs with | some d, some ds => some (d :: ds) | _, _ => none) = _
      rw [e1, f1]
    · rw [PyData.depthAll]
      exact Nat.max_le.mpr ⟨e3, f3⟩
theorem eqD_nil {xs : List D} (h : ∀ x ∈ xs, GD x) : eqD (.lst xs) (.lst []) = some xs.isEmpty := by
  obtain ⟨ps, f1, f2, f3, f4⟩ := toPys_good h
  unfold eqD
  have e : toPy (.lst xs) = some (.list ps) := by show (toPys _).map _ = _; rw [f1]; rfl
  have e2 : toPy (.lst []) = some (.list []) := rfl
  have s1 : SeqAt.shaped (.list ps) = true := by
    unfold SeqAt.shaped
    rw [Bool.and_eq_true]
    refine ⟨by simp [PyData.canLay0, f2], decide_eq_true ?_⟩
    rw [PyData.depth]
    omega
  have s2 : SeqAt.shaped (.list []) = true := by decide
  rw [e, e2]
  simp only [s1, s2, and_self, if_true]
  cases xs with
  | nil =>
    have : ps = [] := List.length_eq_zero_iff.mp (by simpa using f4)
    simp [this, PyData.eqv, PyData.eqvAll]
  | cons x xs =>
    cases ps with
    | nil => simp at f4
    | cons p ps => simp [PyData.eqv, PyData.eqvAll]
/-! ### one of some things -/
def OneS (g : List D → Sto → R D) : Prop := ∀ Ω s b c xs, Sp Ω s b c → c < 2 ^ 40 → xs ≠ [] → xs.length < 2 ^ 59 → ∃ d Ω', g [.hd s, .lst xs] Ω = .ok d Ω' ∧ d ∈ xs ∧ Sp Ω' s b (c + 1) ∧ Kp s b Ω Ω'
theorem atI_in {α : Type} {xs : List α} {i : Int} (h0 : 0 ≤ i) (h1 : i < xs.length) : ∃ x, atI xs i = some x ∧ x ∈ xs := by
  unfold atI
  rw [ixN_lit h0 h1]
  have : i.toNat < xs.length := by omega
  exact ⟨xs[i.toNat], by simp [List.getElem?_eq_getElem this], List.getElem_mem _⟩
theorem lk_kp {s b : Nat} {Ω Ω' : Sto} {d : D} (h : ∀ k, d ≠ .hd k) : lk Ω' d = lk Ω d := by cases d <;> first | rfl | exact absurd rfl (h _)
theorem one_okL {ft : FT} (h : Has ft "_law_take" TakeS) (hd : ft.dfl "_law_take" = []) : OneS (runD ft 2 2 C.s__law_one) := by
  intro Ω s b c xs hs hc hx hl
  refine run_of rfl ?_
  show SW (exL ft C.s__law_one [some (.hd s), some (.lst xs)] Ω) _ _
  unfold C.s__law_one
  rw [SW_cons]
  simp_arith only [hd]
  have hp : 0 < xs.length := List.length_pos_iff.mpr hx
  refine call_of h fun g hg => ?_
  obtain ⟨v, Ω', e, v0, v1, s1, k1⟩ := hg Ω s b c xs.length hs hc (by omega) (by omega)
  refine ⟨_, _, e, ?_⟩
  simp_arith only [hd]
  obtain ⟨x, e1, e2⟩ := atI_in v0 v1
  simp_arith only [e1]
  exact ⟨e2, s1, k1⟩
/-! ### in a drawn order -/
def MixedS (g : List D → Sto → R D) : Prop := ∀ Ω s b c d xs, Sp Ω s b c → c + xs.length < 2 ^ 40 → (∀ k, d ≠ .hd k) → listD d = some (.lst xs) → (∀ x ∈ xs, GD x) → xs.length < 10000 → ∃ ys Ω', g [.hd s, d] Ω = .ok (.lst ys) Ω' ∧ ys.Perm xs ∧ Sp Ω' s b (c + xs.length) ∧ Kp s b Ω Ω'
theorem Sp.lt {Ω : Sto} {s b : Nat} {c : Int} (h : Sp Ω s b c) : s < Ω.length ∧ b < Ω.length := by
  obtain ⟨_, _, _, _, h1, h2, _⟩ := h
  exact ⟨(List.getElem?_eq_some_iff.mp h1).1, (List.getElem?_eq_some_iff.mp h2).1⟩
theorem Sp.at_ {Ω Ω' : Sto} {s b : Nat} {c c' : Int} (h : Sp Ω s b c) (h1 : Ω'[s]? = Ω[s]?) (h2 : Ω'[b]? = Ω[b]?) (hc : c ≤ c') : Sp Ω' s b c' := by
  obtain ⟨a1, a2, a3, a4, g1, g2, g3, g4, g5⟩ := h
  exact ⟨a1, a2, a3, a4, h1.trans g1, h2.trans g2, g3, g4, by omega⟩
theorem perm_erase {α : Type} : ∀ {l : List α} {i : Nat} (h : i < l.length), (l[i] :: l.eraseIdx i).Perm l
  | x :: l, 0, _ => by simp
  | x :: l, i + 1, h => by
    have h' : i < l.length := by simpa using h
    have := perm_erase h'
    simp only [List.getElem_cons_succ, List.eraseIdx_cons_succ]
    exact (List.Perm.swap x l[i] (l.eraseIdx i)).trans (List.Perm.cons x this)
theorem mixed_ok {ft : FT} (h : Has ft "_law_take" TakeS) (hd : ft.dfl "_law_take" = []) : MixedS (runD ft 2 4 C.s__law_mixed) := by
  intro Ω s b c d xs hs hc hn hl hg hx
  suffices h : ∃ e Ω', runD ft 2 4 C.s__law_mixed [.hd s, d] Ω = .ok e Ω' ∧ ∃ ys, e = .lst ys ∧ ys.Perm xs ∧ Sp Ω' s b (c + xs.length) ∧ Kp s b Ω Ω' by
    obtain ⟨e, Ω', e1, ys, rfl, h⟩ := h
    exact ⟨ys, Ω', e1, h⟩
  refine run_of rfl ?_
  show SW (exL ft C.s__law_mixed [some (.hd s), some d, none, none] Ω) _ _
  unfold C.s__law_mixed
  rw [SW_cons]
  have lkd : ∀ Ω, lk Ω d = d := fun Ω => by cases d <;> first | rfl | exact absurd rfl (hn _)
  simp_arith only [lkd, hl]
  obtain ⟨sl, bl⟩ := hs.lt
  rw [SW_cons]
  generalize hL : Ω.length = L at *
  have e1 : (Ω ++ [Ob.lst xs]).length = L + 1 := by rw [List.length_append, hL]; rfl
  rw [e1]
  refine whl_of (fun n ρ Ω' => ρ = [some (.hd s), some d, some (.hd L), some (.hd (L + 1))] ∧ ∃ ls fs, Ω'[L]? = some (.lst ls) ∧ Ω'[L + 1]? = some (.lst fs) ∧ (fs ++ ls).Perm xs ∧ ls.length = n ∧ Sp Ω' s b (c + fs.length) ∧ Kp s b Ω Ω') xs.length (by rw [fuel_eq]; omega) ?_ ?_
  · refine ⟨rfl, xs, [], ?_, ?_, by simp, rfl, hs.at_ ?_ ?_ (by simp), ⟨?_, fun i hi h1 h2 => ?_⟩⟩
    · rw [List.getElem?_append_left (by rw [e1]; omega), List.getElem?_append_right (by omega), hL, Nat.sub_self]; rfl
    · rw [List.getElem?_append_right (by rw [e1]; omega), e1, Nat.sub_self]; rfl
    · rw [List.getElem?_append_left (by rw [e1]; omega), List.getElem?_append_left (by omega)]
    · rw [List.getElem?_append_left (by rw [e1]; omega), List.getElem?_append_left (by omega)]
    · rw [List.length_append, List.length_append]; omega
    · rw [List.getElem?_append_left (by rw [e1]; omega), List.getElem?_append_left (by omega)]
  · rintro n ρ Ω1 ⟨rfl, ls, fs, h1, h2, hp, hln, hS, hK⟩
    have gl : ∀ x ∈ ls, GD x := fun x hx => hg x (hp.subset (List.mem_append_right _ hx))
    have hlen : fs.length + ls.length = xs.length := by rw [← List.length_append]; exact hp.length_eq
    simp_arith only [lk_hl Ω1 h1, eqD_nil gl]
    cases ls with
    | nil =>
      simp_arith only [List.isEmpty_nil]
      rw [SW_cons]
      simp_arith only [h2]
      have ef : fs.length = xs.length := by simpa using hlen
      refine ⟨fs, rfl, by simpa using hp, hS.at_ ?_ ?_ (by omega), ⟨by rw [List.length_set]; exact hK.len, fun i hi g1 g2 => (List.getElem?_set_ne (by omega)).trans (hK.at_ i hi g1 g2)⟩⟩
      · exact List.getElem?_set_ne (by omega)
      · exact List.getElem?_set_ne (by omega)
    | cons y ls =>
      simp_arith only [List.isEmpty_cons]
      rw [SW_cons]
      simp_arith only [lk_hl Ω1 h1, lk_hl Ω1 h2, hd]
      refine call_of h fun g hg => ?_
      have hlc : (ls.length + 1 : Nat) = n := by simpa using hln
      simp only [List.length_cons] at hlen
      obtain ⟨v, Ω2, e, v0, v1, s1, k1⟩ := hg Ω1 s b (c + fs.length) ((ls.length + 1 : Nat) : Int) hS (by omega) (by omega) (by omega)
      refine ⟨_, _, e, ?_⟩
      simp_arith only [lk_hl Ω1 h1, lk_hl Ω1 h2, hd]
      have l1 := hK.len
      have L1 : L + 1 < Ω1.length := (List.getElem?_eq_some_iff.mp h2).1
      have q1 : Ω2[L]? = some (.lst (y :: ls)) := (k1.at_ L (by omega) (by omega) (by omega)).trans h1
      have q2 : Ω2[L + 1]? = some (.lst fs) := (k1.at_ (L + 1) (by omega) (by omega) (by omega)).trans h2
      have hj : v.toNat < (y :: ls).length := by rw [List.length_cons]; omega
      have ix : ixN (ls.length + 1) v = some v.toNat := ixN_lit v0 v1
      simp_arith only [q1, ix, List.getElem?_eq_getElem hj]
      rw [if_pos ⟨by omega, by omega⟩]
      have q3 : (Ω2.set L (Ob.lst ((y :: ls).eraseIdx v.toNat)))[L + 1]? = some (.lst fs) := (List.getElem?_set_ne (by omega)).trans q2
      simp_arith only [q3]
      rw [if_pos (by unfold big; omega)]
      simp_arith only []
      rw [SW_nil]
      refine ⟨ls.length, by omega, rfl, (y :: ls).eraseIdx v.toNat, fs ++ [(y :: ls)[v.toNat]], ?_, set_get q3, ?_, ?_, s1.at_ ?_ ?_ ?_, ⟨?_, fun i hi g1 g2 => ?_⟩⟩
      · rw [List.getElem?_set_ne (by omega)]; exact set_get q1
      · refine List.Perm.trans ?_ hp
        rw [List.append_assoc]
        refine List.Perm.append_left fs ?_
        exact perm_erase hj
      · rw [List.length_eraseIdx, if_pos hj]; simp
      · rw [List.getElem?_set_ne (by omega), List.getElem?_set_ne (by omega)]
      · rw [List.getElem?_set_ne (by omega), List.getElem?_set_ne (by omega)]
      · rw [List.length_append]; simp; omega
      · rw [List.length_set, List.length_set]; exact Nat.le_trans hK.len k1.len
      · rw [List.getElem?_set_ne (by omega), List.getElem?_set_ne (by omega)]
        exact (k1.at_ i (by omega) g1 g2).trans (hK.at_ i (by omega) g1 g2)
end Rf
end
section
namespace Rf
open PySem L2
/-! ### some of the things -/
def FewS (g : List D → Sto → R D) : Prop := ∀ Ω s b c xs, Sp Ω s b c → c + xs.length < 2 ^ 40 → xs.length < 10000 → ∃ ys Ω', g [.hd s, .lst xs] Ω = .ok (.lst ys) Ω' ∧ ys.Sublist xs ∧ Sp Ω' s b (c + xs.length) ∧ Kp s b Ω Ω'
theorem lawfew_ok {ft : FT} (h : Has ft "_law_take" TakeS) (hd : ft.dfl "_law_take" = []) : FewS (runD ft 2 3 C.s__law_few) := by
  intro Ω s b c xs hs hc hl
  suffices h : ∃ e Ω', runD ft 2 3 C.s__law_few [.hd s, .lst xs] Ω = .ok e Ω' ∧ ∃ ys, e = .lst ys ∧ ys.Sublist xs ∧ Sp Ω' s b (c + xs.length) ∧ Kp s b Ω Ω' by
    obtain ⟨e, Ω', e1, ys, rfl, h⟩ := h
    exact ⟨ys, Ω', e1, h⟩
  refine run_of rfl ?_
  show SW (exL ft C.s__law_few [some (.hd s), some (.lst xs), none] Ω) _ _
  unfold C.s__law_few
  rw [SW_cons]
  simp_arith only [iterD, seqD, hd]
  refine lc_of (fun i acc Ω' => acc.Sublist (xs.take i) ∧ Sp Ω' s b (c + i) ∧ Kp s b Ω Ω') (by unfold big; omega) ⟨by simp, by simpa using hs, Kp.refl⟩ (fun i x acc Ω1 hx hi => ?_) (fun acc Ω1 hi => ?_)
  · obtain ⟨h1, h2, h3⟩ := hi
    have hi : i < xs.length := (List.getElem?_eq_some_iff.mp hx).1
    simp_arith only []
    refine call_of h fun g hg => ?_
    obtain ⟨v, Ω2, e, v0, v1, s1, k1⟩ := hg Ω1 s b (c + i) 2 h2 (by omega) (by omega) (by omega)
    refine ⟨_, _, e, ?_⟩
    simp_arith only []
    have et : xs.take (i + 1) = xs.take i ++ [x] := by rw [List.take_add_one, hx]; rfl
    have sp : Sp Ω2 s b (c + (i + 1 : Nat)) := s1.at_ rfl rfl (by omega)
    by_cases hv : v = 0
    · simp_arith only [hv, beq_self_eq_true]
      exact ⟨by rw [et]; exact List.Sublist.append h1 (List.Sublist.refl _), sp, h3.trans k1⟩
    · rw [if_neg (by simpa using hv)]
      exact ⟨by rw [et]; simpa using h1.trans (List.sublist_append_left _ _), sp, h3.trans k1⟩
  · obtain ⟨h1, h2, h3⟩ := hi
    exact ⟨acc, rfl, by simpa using h1, h2, h3⟩
/-! ### as a list or a tuple -/
def LooseS (g : List D → Sto → R D) : Prop := ∀ Ω s b c xs, Sp Ω s b c → c < 2 ^ 40 → ∃ d Ω', g [.hd s, .lst xs] Ω = .ok d Ω' ∧ (d = .lst xs ∨ d = .tup xs) ∧ Sp Ω' s b (c + 1) ∧ Kp s b Ω Ω'
theorem loose_ok {ft : FT} (h : Has ft "_law_take" TakeS) (hd : ft.dfl "_law_take" = []) : LooseS (runD ft 2 2 C.s__law_loose) := by
  intro Ω s b c xs hs hc
  refine run_of rfl ?_
  show SW (exL ft C.s__law_loose [some (.hd s), some (.lst xs)] Ω) _ _
  unfold C.s__law_loose
  rw [SW_cons]
  simp_arith only [hd]
  refine call_of h fun g hg => ?_
  obtain ⟨v, Ω2, e, v0, v1, s1, k1⟩ := hg Ω s b c 2 hs hc (by omega) (by omega)
  refine ⟨_, _, e, ?_⟩
  simp_arith only []
  by_cases hv : v = 0
  · simp_arith only [hv, beq_self_eq_true, listd, listD, seqD]
    exact ⟨.inl trivial, s1, k1⟩
  · rw [if_neg (by simpa using hv)]
    simp_arith only []
    exact ⟨.inr trivial, s1, k1⟩
/-! ### the spring itself -/
def SpringS (g : List D → Sto → R D) : Prop := ∀ ns : List Int, ns.length ≤ 63 → ∃ s b Ω', g [.scr ns] [] = .ok (.hd s) Ω' ∧ Sp Ω' s b 0
theorem spring_ok {ft : FT} : SpringS (runD ft 1 3 C.s__law_spring) := by
  intro ns hl
  suffices h : ∃ e Ω', runD ft 1 3 C.s__law_spring [.scr ns] [] = .ok e Ω' ∧ ∃ s b, e = .hd s ∧ Sp Ω' s b 0 by
    obtain ⟨e, Ω', e1, s, b, rfl, h⟩ := h
    exact ⟨s, b, Ω', e1, h⟩
  refine run_of rfl ?_
  show SW (exL ft C.s__law_spring [some (.scr ns), none, none] []) _ _
  unfold C.s__law_spring
  have hp : op2D .Pow (.int 10) (.int 18) = some (.int (10 ^ 18)) := by rw [powi, if_pos ⟨by decide, by decide, by decide⟩]; rfl
  rw [SW_cons]
  simp_arith only [iterD, seqD, hp]
  have key : ∀ (p : Int → Bool) (ms : List Int), (ms.map D.int).filterMap (fun d => match d with | .int i => if p i then some (D.int i) else none | _ => none) = (ms.filter p).map .int := fun p ms => by
    induction ms with
    | nil => rfl
    | cons m ms ih =>
      rw [List.map_cons, List.filterMap_cons, ih, List.filter_cons]
      by_cases h : p m = true <;> simp [h]
  refine lc_pure (fun d => match d with | .int i => if decide (i < 10 ^ 18) then some (D.int i) else none | _ => none) (by rw [List.length_map]; unfold big; omega) (fun x hx => ?_) ?_
  · obtain ⟨i, _, rfl⟩ := List.mem_map.mp hx
    simp_arith only [hp]
    generalize (10 ^ 18 : Int) = T
    by_cases h : i < T
    · rw [if_pos (by simpa using h)]
      simp_arith only []
      exact ⟨by rw [if_pos (by simpa using h)], trivial⟩
    · rw [if_neg (by simpa using h)]
      exact ⟨by show none = if decide (i < T) = true then some (D.int i) else none; rw [if_neg (by simpa using h)], rfl⟩
  · simp_arith only [key]
    rw [SW_cons]
    simp_arith only [iterD, seqD, hp]
    refine lc_pure (fun d => match d with | .int i => if decide (10 ^ 18 ≤ i) then some (D.int i) else none | _ => none) (by rw [List.length_map]; unfold big; omega) (fun x hx => ?_) ?_
    · obtain ⟨i, _, rfl⟩ := List.mem_map.mp hx
      simp_arith only [hp]
      generalize (10 ^ 18 : Int) = T
      by_cases h : T ≤ i
      · rw [if_pos (by simpa using h)]
        simp_arith only []
        exact ⟨by rw [if_pos (by simpa using h)], trivial⟩
      · rw [if_neg (by simpa using h)]
        exact ⟨by show none = if decide (T ≤ i) = true then some (D.int i) else none; rw [if_neg (by simpa using h)], rfl⟩
    · simp_arith only [key]
      exact ⟨1, 0, rfl, _, 0, _, 0, rfl, rfl, by decide, by decide, by decide⟩
/-! ### strings in ascending order, each once -/
def sortS (ss : List Str) : List Str := (once ss).mergeSort leS
def RisingS (g : List D → Sto → R D) : Prop := ∀ (d : D) (ss : List Str) Ω, iterD d = some (ss.map .str) → ss.length < 64 → g [d] Ω = .ok (.lst ((sortS ss).map .str)) Ω
theorem strsD_map (ss : List Str) : strsD (ss.map .str) = some ss := by
  induction ss with
  | nil => rfl
  | cons s ss ih => show (strsD (ss.map .str)).map (s :: ·) = _; rw [ih]; rfl
theorem fm_str (ss : List Str) : (ss.map D.str).filterMap (fun d => some d) = ss.map .str := by induction ss <;> simp_all
theorem rising_of {ft : FT} {d : D} {ss : List Str} {Ω : Sto} {body : SL} (e : body = C.s_rising) (hi : iterD d = some (ss.map .str)) (hl : ss.length < 64) : runD ft 1 2 body [d] Ω = .ok (.lst ((sortS ss).map .str)) Ω := by
  subst e
  suffices h : ∃ e Ω', runD ft 1 2 C.s_rising [d] Ω = .ok e Ω' ∧ (e = .lst ((sortS ss).map .str) ∧ Ω' = Ω) by
    obtain ⟨e, Ω', e1, rfl, rfl⟩ := h
    exact e1
  refine run_of rfl ?_
  show SW (exL ft C.s_rising [some d, none] Ω) _ _
  unfold C.s_rising
  rw [SW_cons]
  simp_arith only [hi]
  refine lc_pure (fun d => some d) (by rw [List.length_map]; unfold big; omega) (fun x hx => ?_) ?_
  · obtain ⟨i, _, rfl⟩ := List.mem_map.mp hx
    simp_arith only []
    exact ⟨trivial, trivial⟩
  · rw [fm_str]
    simp_arith only [ssetD, strsD_map, hl]
    exact ⟨rfl, trivial⟩
theorem rising_ok {ft : FT} : RisingS (runD ft 1 2 C.s_rising) := fun d ss Ω hi hl => rising_of rfl hi hl
theorem lawrising_ok {ft : FT} : RisingS (runD ft 1 2 C.s__law_rising) := fun d ss Ω hi hl => rising_of rfl hi hl
end Rf
end
section
namespace Rf
open PySem L2
/-! ### shares -/
def ShareOk (r : Rat) : Prop := 0 ≤ r.num ∧ r.num ≤ r.den ∧ sz r 5
theorem share_divInt {t b : Int} (h0 : 0 ≤ t) (h1 : t ≤ b) (hb : 0 < b) (h2 : b < 32) : ShareOk (Rat.divInt t b) := by
  have gpos : 0 < Int.gcd t b := Int.gcd_pos_of_ne_zero_right _ (by omega)
  have e := frac_divInt (t := t) hb
  unfold frac at e
  simp only [D.tup.injEq, List.cons.injEq, D.int.injEq, and_true] at e
  obtain ⟨e1, e2⟩ := e
  refine ⟨?_, ?_, sz_divInt hb (by omega) (by omega)⟩
  · rw [e1]; exact Int.ediv_nonneg h0 (by omega)
  · rw [e1, e2]; exact Int.ediv_le_ediv (by omega) h1
def ShareS (g : List D → Sto → R D) : Prop := ∀ Ω s b c (st : Str), Sp Ω s b c → c + 2 < 2 ^ 40 → st ∈ (["any", "small", "great", "some"] : List Str) → ∃ r Ω', g [.hd s, .str st] Ω = .ok (frac r) Ω' ∧ ShareOk r ∧ Sp Ω' s b (c + 2) ∧ Kp s b Ω Ω'
theorem Sp.le {Ω : Sto} {s b : Nat} {c c' : Int} (h : Sp Ω s b c) (hc : c ≤ c') : Sp Ω s b c' := h.at_ rfl rfl hc
def greatL : List Rat := [0, Rat.divInt 1 4, Rat.divInt 1 5, Rat.divInt 1 6, Rat.divInt 2 9, Rat.divInt 1 8, Rat.divInt 1 3, Rat.divInt 3 10, Rat.divInt 1 2, 1]
theorem great_eq : greatL.map frac = [.tup [.int 0, .int 1], .tup [.int 1, .int 4], .tup [.int 1, .int 5], .tup [.int 1, .int 6], .tup [.int 2, .int 9], .tup [.int 1, .int 8], .tup [.int 1, .int 3], .tup [.int 3, .int 10], .tup [.int 1, .int 2], .tup [.int 1, .int 1]] := by
  simp only [greatL, List.map_cons, List.map_nil, frac_zero, frac_one]
  rw [frac_divInt (by decide), frac_divInt (by decide), frac_divInt (by decide), frac_divInt (by decide), frac_divInt (by decide), frac_divInt (by decide), frac_divInt (by decide), frac_divInt (by decide)]
  rfl
theorem great_ok : ∀ r ∈ greatL, ShareOk r := by
  intro r hr
  simp only [greatL, List.mem_cons, List.not_mem_nil, or_false] at hr
  rcases hr with rfl | rfl | rfl | rfl | rfl | rfl | rfl | rfl | rfl | rfl
  all_goals first | exact share_divInt (by decide) (by decide) (by decide) (by decide) | exact ⟨by decide, by decide, by decide, by decide⟩
theorem share_ok {ft : FT} (h : Has ft "_law_take" TakeS) (h1 : Has ft "_law_one" OneS) (h2 : Has ft "_law_lowest" LowS) (hd : ft.dfl "_law_take" = []) (hd1 : ft.dfl "_law_one" = []) (hd2 : ft.dfl "_law_lowest" = []) : ShareS (runD ft 2 3 C.s__law_share) := by
  intro Ω s b c st hs hc hst
  suffices h : ∃ e Ω', runD ft 2 3 C.s__law_share [.hd s, .str st] Ω = .ok e Ω' ∧ ∃ r, e = frac r ∧ ShareOk r ∧ Sp Ω' s b (c + 2) ∧ Kp s b Ω Ω' by
    obtain ⟨e, Ω', e1, ys, rfl, h⟩ := h
    exact ⟨ys, Ω', e1, h⟩
  refine run_of rfl ?_
  show SW (exL ft C.s__law_share [some (.hd s), some (.str st), none] Ω) _ _
  unfold C.s__law_share
  have up : ∀ z : Int, z.natAbs < 2 ^ 6 → z.natAbs < 2 ^ 400000 := fun z hz => Nat.lt_of_lt_of_le hz (Nat.pow_le_pow_right (by decide) (by decide))
  have up2 : ∀ z : Int, z.natAbs < 2 ^ 6 → z.natAbs < 2 ^ 8999 := fun z hz => Nat.lt_of_lt_of_le hz (Nat.pow_le_pow_right (by decide) (by decide))
  simp only [List.mem_cons, List.not_mem_nil, or_false] at hst
  rcases hst with rfl | rfl | rfl | rfl
  · rw [SW_cons]
    have e : eqD (.str "any") (.str "any") = some true := by decide +kernel
    simp_arith only [e]
    rw [SW_cons]
    simp_arith only [hd]
    refine call_of h fun g hg => ?_
    obtain ⟨v, Ω2, e, v0, v1, s1, k1⟩ := hg Ω s b c 12 hs (by omega) (by omega) (by omega)
    refine ⟨_, _, e, ?_⟩
    simp_arith only []
    rw [SW_cons]
    simp_arith only [hd, hd2]
    refine call_of h fun g hg => ?_
    obtain ⟨v', Ω3, e', v0', v1', s1', k1'⟩ := hg Ω2 s b (c + 1) (1 + v + 1) s1 (by omega) (by omega) (by omega)
    refine ⟨_, _, e', ?_⟩
    simp_arith only [hd, hd2]
    refine call_of h2 fun g hg => ⟨_, _, hg v' (1 + v) _ (by omega) (up _ (by omega)) (up2 _ (by omega)), ?_⟩
    simp_arith only [hd, hd2]
    exact ⟨_, rfl, share_divInt (by omega) (by omega) (by omega) (by omega), s1'.le (by omega), k1.trans k1'⟩
  · rw [SW_cons]
    have e : eqD (.str "small") (.str "any") = some false := by decide +kernel
    have e2 : eqD (.str "small") (.str "small") = some true := by decide +kernel
    simp_arith only [e]
    rw [SW_nil, SW_cons]
    simp_arith only [e2]
    rw [SW_cons]
    simp_arith only [hd, hd2]
    refine call_of h fun g hg => ?_
    obtain ⟨v, Ω2, e, v0, v1, s1, k1⟩ := hg Ω s b c 4 hs (by omega) (by omega) (by omega)
    refine ⟨_, _, e, ?_⟩
    simp_arith only [hd, hd2]
    refine call_of h fun g hg => ?_
    obtain ⟨v', Ω3, e', v0', v1', s1', k1'⟩ := hg Ω2 s b (c + 1) 12 s1 (by omega) (by omega) (by omega)
    refine ⟨_, _, e', ?_⟩
    simp_arith only [hd, hd2]
    refine call_of h2 fun g hg => ⟨_, _, hg v (12 + v') _ (by omega) (up _ (by omega)) (up2 _ (by omega)), ?_⟩
    simp_arith only [hd, hd2]
    exact ⟨_, rfl, share_divInt (by omega) (by omega) (by omega) (by omega), s1'.le (by omega), k1.trans k1'⟩
  · rw [SW_cons]
    have e : eqD (.str "great") (.str "any") = some false := by decide +kernel
    have e2 : eqD (.str "great") (.str "small") = some false := by decide +kernel
    simp_arith only [e]
    rw [SW_nil, SW_cons]
    simp_arith only [e2]
    rw [SW_nil, SW_cons]
    simp_arith only [hd1]
    rw [if_pos (by unfold big; omega)]
    simp_arith only []
    rw [← great_eq]
    refine call_of h1 fun g hg => ?_
    obtain ⟨d, Ω2, e, hm, s1, k1⟩ := hg Ω s b c (greatL.map frac) hs (by omega) (by simp [greatL]) (by simp [greatL])
    refine ⟨_, _, e, ?_⟩
    simp_arith only []
    obtain ⟨r, hr, rfl⟩ := List.mem_map.mp hm
    exact ⟨r, rfl, great_ok r hr, s1.le (by omega), k1⟩
  · rw [SW_cons]
    have e : eqD (.str "some") (.str "any") = some false := by decide +kernel
    have e2 : eqD (.str "some") (.str "small") = some false := by decide +kernel
    simp_arith only [e]
    rw [SW_nil, SW_cons]
    simp_arith only [e2]
    rw [SW_nil, SW_cons]
    simp_arith only [hd1]
    rw [if_pos (by unfold big; omega)]
    simp_arith only []
    rw [← great_eq]
    refine call_of h1 fun g hg => ?_
    obtain ⟨d, Ω2, e, hm, s1, k1⟩ := hg Ω s b c (greatL.map frac) hs (by omega) (by simp [greatL]) (by simp [greatL])
    refine ⟨_, _, e, ?_⟩
    simp_arith only []
    obtain ⟨r, hr, rfl⟩ := List.mem_map.mp hm
    exact ⟨r, rfl, great_ok r hr, s1.le (by omega), k1⟩
/-! ### as it is handed in -/
def HandedOk (d : D) (r : Rat) : Prop := (∃ m : Int, 1 ≤ m ∧ m ≤ 4 ∧ d = .tup [.int (m * r.num), .int (m * r.den)]) ∨ d = .lst [.int r.num, .int r.den] ∨ (d = .int r.num ∧ r.den = 1)
def HandS (g : List D → Sto → R D) : Prop := ∀ Ω s b c r, Sp Ω s b c → c + 2 < 2 ^ 40 → sz r 5 → ∃ d Ω', g [.hd s, frac r] Ω = .ok d Ω' ∧ HandedOk d r ∧ Sp Ω' s b (c + 2) ∧ Kp s b Ω Ω'
theorem handed_ok {ft : FT} (h : Has ft "_law_take" TakeS) (h1 : Has ft "_law_one" OneS) (hd : ft.dfl "_law_take" = []) (hd1 : ft.dfl "_law_one" = []) : HandS (runD ft 2 6 C.s__law_handed) := by
  intro Ω s b c r hs hc hr
  refine run_of rfl ?_
  show SW (exL ft C.s__law_handed [some (.hd s), some (frac r), none, none, none, none] Ω) _ _
  unfold C.s__law_handed frac
  rw [SW_cons]
  simp_arith only []
  rw [SW_cons]
  simp_arith only [hd]
  refine call_of h fun g hg => ?_
  obtain ⟨v, Ω2, e, v0, v1, s1, k1⟩ := hg Ω s b c 4 hs (by omega) (by omega) (by omega)
  refine ⟨_, _, e, ?_⟩
  simp_arith only []
  rw [SW_cons]
  have m1 : op2D .Mult (.int (1 + v)) (.int r.num) = some (.int ((1 + v) * r.num)) := mul_small (up4 (k := 6) (by omega) (by omega)) (up4 hr.1 (by omega))
  have m2 : op2D .Mult (.int (1 + v)) (.int (r.den : Int)) = some (.int ((1 + v) * (r.den : Int))) := mul_small (up4 (k := 6) (by omega) (by omega)) (up4 (k := 5) (by have := hr.2; omega) (by omega))
  simp_arith only [m1, m2]
  have fin : ∀ L : List D, L ≠ [] → L.length < 10 → (∀ d ∈ L, HandedOk d r) → SW (exL ft (SL.cons (S.ret (E.call "_law_one" (EL.cons (E.var 0) (EL.cons (E.var 3) EL.nil)) 0)) SL.nil) [some (D.hd s), some (D.tup [D.int r.num, D.int r.den]), some (D.int (1 + v)), some (D.lst L), some (D.int r.num), some (D.int r.den)] Ω2) (fun _ Ω' => HandedOk .non r ∧ Sp Ω' s b (c + 2) ∧ Kp s b Ω Ω') (fun d Ω' => HandedOk d r ∧ Sp Ω' s b (c + 2) ∧ Kp s b Ω Ω') := by
    intro L hL hl hm
    rw [SW_cons]
    simp_arith only [hd1]
    refine call_of h1 fun g hg => ?_
    obtain ⟨d, Ω3, e, hmm, s2, k2⟩ := hg Ω2 s b (c + 1) L s1 (by omega) hL (by omega)
    exact ⟨_, _, e, hm d hmm, s2.le (by omega), k1.trans k2⟩
  have base : ∀ d ∈ [D.tup [D.int r.num, D.int r.den], D.lst [D.int r.num, D.int r.den], D.tup [D.int ((1 + v) * r.num), D.int ((1 + v) * r.den)]], HandedOk d r := by
    intro d hdm
    simp only [List.mem_cons, List.not_mem_nil, or_false] at hdm
    rcases hdm with rfl | rfl | rfl
    · exact .inl ⟨1, by decide, by decide, by simp⟩
    · exact .inr (.inl rfl)
    · exact .inl ⟨1 + v, by omega, by omega, rfl⟩
  by_cases hden : r.den = 1
  · have e1 : ((r.den : Int) == 1) = true := by simp [hden]
    simp_arith only [e1, mull]
    rw [if_pos ⟨by decide, by decide, by unfold big; simp⟩]
    simp_arith only [addl]
    rw [if_pos (by unfold big; simp)]
    simp_arith only []
    refine fin _ (by simp) (by simp) fun d hdm => ?_
    have hdm : d ∈ [D.tup [D.int r.num, D.int r.den], D.lst [D.int r.num, D.int r.den], D.tup [D.int ((1 + v) * r.num), D.int ((1 + v) * r.den)]] ++ [D.int r.num] := hdm
    rcases List.mem_append.mp hdm with h | h
    · exact base d h
    · have : d = .int r.num := by simpa using h
      exact .inr (.inr ⟨this, hden⟩)
  · have e1 : ((r.den : Int) == 1) = false := by
      have : (r.den : Int) ≠ 1 := by omega
      simpa using this
    simp_arith only [e1, mull]
    rw [if_pos ⟨by decide, by decide, by unfold big; simp⟩]
    simp_arith only [addl]
    rw [if_pos (by unfold big; simp)]
    simp_arith only []
    refine fin _ (by simp) (by simp) fun d hdm => ?_
    exact base d hdm
end Rf
end
section
namespace Rf
open PySem L2
/-! ### names -/
def abc : List Nat := ("abcdefghijklmnopqrstuvwxyz" : Str).cps.toList
def alnum : List Nat := (("abcdefghijklmnopqrstuvwxyz" : Str) ++ ("0123456789" : Str)).cps.toList
def NameOk (s : Str) : Prop := ∃ h t, s.cps.toList = h :: t ∧ h ∈ abc ∧ (∀ x ∈ t, x ∈ alnum) ∧ t.length ≤ 7
def nameB (s : Str) : Bool := match s.cps.toList with
  | [] => false
  | h :: t => decide (h ∈ abc) && t.all (fun x => decide (x ∈ alnum)) && decide (t.length ≤ 7)
theorem nameB_ok {s : Str} (h : nameB s = true) : NameOk s := by
  unfold nameB at h
  split at h
  · cases h
  · rename_i a t e
    simp only [Bool.and_eq_true, decide_eq_true_eq, List.all_eq_true] at h
    exact ⟨a, t, e, h.1.1, h.1.2, h.2⟩
def OneStrS (g : List D → Sto → R D) : Prop := ∀ Ω s b c (t : Str), Sp Ω s b c → c < 2 ^ 40 → t.cps.toList ≠ [] → t.length ≤ 100 → ∃ ch Ω', g [.hd s, .str t] Ω = .ok (.str ⟨#[ch]⟩) Ω' ∧ ch ∈ t.cps.toList ∧ Sp Ω' s b (c + 1) ∧ Kp s b Ω Ω'
theorem idxD_str (t : Str) (i : Int) : idxD (.str t) (.int i) = if t.length ≤ big then (atI t.cps.toList i).map fun c => .str ⟨#[c]⟩ else none := rfl
theorem onestr_ok {ft : FT} (h : Has ft "_law_take" TakeS) (hd : ft.dfl "_law_take" = []) : OneStrS (runD ft 2 2 C.s__law_one) := by
  intro Ω s b c t hs hc hx hl
  suffices h : ∃ e Ω', runD ft 2 2 C.s__law_one [.hd s, .str t] Ω = .ok e Ω' ∧ ∃ ch, e = .str ⟨#[ch]⟩ ∧ ch ∈ t.cps.toList ∧ Sp Ω' s b (c + 1) ∧ Kp s b Ω Ω' by
    obtain ⟨e, Ω', e1, ys, rfl, h⟩ := h
    exact ⟨ys, Ω', e1, h⟩
  refine run_of rfl ?_
  show SW (exL ft C.s__law_one [some (.hd s), some (.str t)] Ω) _ _
  unfold C.s__law_one
  have hb : t.length ≤ big := by unfold big; omega
  have el : t.length = t.cps.toList.length := by unfold Str.length; simp
  rw [SW_cons]
  simp_arith only [hd, lens, hb]
  have hp : 0 < t.cps.toList.length := List.length_pos_iff.mpr hx
  refine call_of h fun g hg => ?_
  obtain ⟨v, Ω', e, v0, v1, s1, k1⟩ := hg Ω s b c t.length hs hc (by omega) (by omega)
  refine ⟨_, _, e, ?_⟩
  simp_arith only [hd, lens, hb]
  obtain ⟨x, e1, e2⟩ := atI_in (xs := t.cps.toList) v0 (by omega)
  simp_arith only [idxD_str, hb, e1]
  exact ⟨x, rfl, e2, s1, k1⟩
def NameS (g : List D → Sto → R D) : Prop := ∀ Ω s b c, Sp Ω s b c → c + 10 < 2 ^ 40 → ∃ n Ω', g [.hd s] Ω = .ok (.str n) Ω' ∧ NameOk n ∧ Sp Ω' s b (c + 10) ∧ Kp s b Ω Ω'
def wordsL : List Str := ["fault", "link", "world", "system", "f0", "f1", "f10", "none", "a", "b", "a1", "a9", "a10", "zzzzzzz9"]
theorem words_ok : ∀ w ∈ wordsL, NameOk w := fun w hw => nameB_ok (List.all_eq_true.mp (by decide +kernel : wordsL.all nameB = true) w hw)
theorem cps_append (a b : Str) : (a ++ b).cps.toList = a.cps.toList ++ b.cps.toList := by
  show (a.cps ++ b.cps).toList = _
  simp
theorem join_cps : ∀ ss : List Str, (Str.join "" ss).cps.toList = (ss.map fun s => s.cps.toList).flatten
  | [] => rfl
  | [x] => by simp [Str.join]
  | x :: y :: r => by
    have ih := join_cps (y :: r)
    show ((x ++ "") ++ Str.join "" (y :: r)).cps.toList = _
    rw [cps_append, cps_append, ih]
    have e : (("" : Str)).cps.toList = [] := by decide
    rw [e]
    simp
theorem name_ok {ft : FT} (h : Has ft "_law_take" TakeS) (h1 : Has ft "_law_one" OneS) (h2 : Has ft "_law_one" OneStrS) (hd : ft.dfl "_law_take" = []) (hd1 : ft.dfl "_law_one" = []) : NameS (runD ft 1 6 C.s__law_name) := by
  intro Ω s b c hs hc
  suffices h : ∃ e Ω', runD ft 1 6 C.s__law_name [.hd s] Ω = .ok e Ω' ∧ ∃ n, e = .str n ∧ NameOk n ∧ Sp Ω' s b (c + 10) ∧ Kp s b Ω Ω' by
    obtain ⟨e, Ω', e1, ys, rfl, h⟩ := h
    exact ⟨ys, Ω', e1, h⟩
  refine run_of rfl ?_
  show SW (exL ft C.s__law_name [some (.hd s), none, none, none, none, none] Ω) _ _
  unfold C.s__law_name
  rw [SW_cons]
  simp_arith only []
  rw [if_pos (by unfold big; omega)]
  simp_arith only []
  rw [SW_cons]
  simp_arith only []
  rw [if_pos (by unfold big; omega)]
  simp_arith only [addl]
  rw [if_pos (by unfold big; omega)]
  simp_arith only []
  rw [SW_cons]
  simp_arith only [hd]
  refine call_of h fun g hg => ?_
  obtain ⟨v, Ω2, e, v0, v1, s1, k1⟩ := hg Ω s b c 2 hs (by omega) (by omega) (by omega)
  refine ⟨_, _, e, ?_⟩
  simp_arith only []
  by_cases hv : v = 0
  · simp_arith only [hv, beq_self_eq_true]
    rw [SW_cons]
    simp_arith only [hd1]
    refine call_of h1 fun g hg => ?_
    obtain ⟨d, Ω3, e, hm, s2, k2⟩ := hg Ω2 s b (c + 1) (wordsL.map .str) s1 (by omega) (by decide) (by decide)
    refine ⟨_, _, e, ?_⟩
    simp_arith only [hd1]
    obtain ⟨w, hw, rfl⟩ := List.mem_map.mp hm
    exact ⟨w, rfl, words_ok w hw, s2.le (by omega), k1.trans k2⟩
  · rw [if_neg (by simpa using hv), SW_nil, SW_cons]
    simp_arith only []
    rw [SW_cons]
    simp_arith only [hd]
    rw [if_pos (by unfold big; omega)]
    simp_arith only []
    refine call_of h fun g hg => ?_
    obtain ⟨v2, Ω3, e, w0, w1, s2, k2⟩ := hg Ω2 s b (c + 1) 5 s1 (by omega) (by omega) (by omega)
    refine ⟨_, _, e, ?_⟩
    simp_arith only []
    obtain ⟨z, hz, hz1, hz2⟩ : ∃ z : Int, atI [D.int 1, D.int 1, D.int 2, D.int 3, D.int 8] v2 = some (.int z) ∧ 1 ≤ z ∧ z ≤ 8 := by
      have : v2 = 0 ∨ v2 = 1 ∨ v2 = 2 ∨ v2 = 3 ∨ v2 = 4 := by omega
      rcases this with rfl | rfl | rfl | rfl | rfl
      · exact ⟨1, rfl, by decide, by decide⟩
      · exact ⟨1, rfl, by decide, by decide⟩
      · exact ⟨2, rfl, by decide, by decide⟩
      · exact ⟨3, rfl, by decide, by decide⟩
      · exact ⟨8, rfl, by decide, by decide⟩
    simp_arith only [hz]
    rw [SW_cons]
    simp_arith only [hd, hd1]
    refine call_of h fun g hg => ?_
    obtain ⟨v3, Ω4, e, x0, x1, s3, k3⟩ := hg Ω3 s b (c + 1 + 1) 26 s2 (by omega) (by omega) (by omega)
    refine ⟨_, _, e, ?_⟩
    simp_arith only [hd, hd1]
    obtain ⟨ch, e1, e2⟩ := atI_in (xs := abc) (i := v3) x0 (by have : abc.length = 26 := by decide +kernel
                                                               omega)
    have l26 : (Str.ofString "abcdefghijklmnopqrstuvwxyz").length ≤ big := by decide +kernel
    have e1 : atI (Str.ofString "abcdefghijklmnopqrstuvwxyz").cps.toList v3 = some ch := e1
    simp_arith only [idxD_str, l26, e1]
    have inr : inR (z - 1) = true := inR_mk (by omega) (by omega)
    simp_arith only [inr]
    have l36 : (Str.ofString "abcdefghijklmnopqrstuvwxyz").length + (Str.ofString "0123456789").length ≤ big := by decide +kernel
    try simp_arith only [adds, l36]
    have rl : (rngD 0 (z - 1)).length = (z - 1).toNat := by unfold rngD; simp
    refine lc_of (fun i acc Ω' => ∃ cs : List Nat, acc = cs.map (fun c => D.str ⟨#[c]⟩) ∧ cs.length = i ∧ (∀ x ∈ cs, x ∈ alnum) ∧ Sp Ω' s b (c + 3 + i) ∧ Kp s b Ω Ω') (by rw [rl]; unfold big; omega) ⟨[], rfl, rfl, by simp, s3.le (by omega), (k1.trans k2).trans k3⟩ (fun i x acc Ω5 hx hi => ?_) (fun acc Ω5 hi => ?_)
    · obtain ⟨cs, rfl, hcl, hca, s4, k4⟩ := hi
      have hi : i < (z - 1).toNat := by have := (List.getElem?_eq_some_iff.mp hx).1; omega
      simp_arith only [adds, l36]
      refine call_of h2 fun g hg => ?_
      obtain ⟨ch2, Ω6, e, hm, s5, k5⟩ := hg Ω5 s b (c + 3 + i) (Str.ofString "abcdefghijklmnopqrstuvwxyz" ++ Str.ofString "0123456789") s4 (by omega) (by decide +kernel) (by decide +kernel)
      refine ⟨_, _, e, ?_⟩
      simp_arith only [adds, l36]
      exact ⟨cs ++ [ch2], by simp, by simp [hcl], fun x hx => by
        rcases List.mem_append.mp hx with h | h
        · exact hca x h
        · have : x = ch2 := by simpa using h
          rw [this]; exact hm, s5.le (by omega), k4.trans k5⟩
    · obtain ⟨cs, rfl, hcl, hca, s4, k4⟩ := hi
      rw [rl] at hcl s4
      have es : strsD (cs.map fun c => D.str ⟨#[c]⟩) = some (cs.map fun c => (⟨#[c]⟩ : Str)) := by
        have := strsD_map (cs.map fun c => (⟨#[c]⟩ : Str))
        rw [List.map_map] at this
        exact this
      have sm : ((cs.map fun c => (⟨#[c]⟩ : Str)).map fun s => s.length + (Str.ofString "").length).sum ≤ big := by
        have : ((cs.map fun c => (⟨#[c]⟩ : Str)).map fun s => s.length + (Str.ofString "").length).sum = cs.length := by
          clear es hcl hca s4
          induction cs with
          | nil => rfl
          | cons c cs ih => simp only [List.map_cons, List.sum_cons, ih, List.length_cons]; have : (⟨#[c]⟩ : Str).length + (Str.ofString "").length = 1 := rfl
                            omega
        rw [this]; unfold big; omega
      have ej : (joinD (Str.ofString "") (cs.map fun c => (⟨#[c]⟩ : Str))).cps.toList = cs := by
        show (Builtin.Str.glued _ _).cps.toList = _
        rw [StrLaws.glued_eq_join]
        have := join_cps (cs.map fun c => (⟨#[c]⟩ : Str))
        rw [List.map_map] at this
        rw [this]
        clear this es sm hcl hca s4
        induction cs with
        | nil => rfl
        | cons c cs ih => simpa using ih
      simp_arith only [methD, seqD, es, sm]
      have ln : (⟨#[ch]⟩ : Str).length + (joinD (Str.ofString "") (cs.map fun c => (⟨#[c]⟩ : Str))).length ≤ big := by
        have : (joinD (Str.ofString "") (cs.map fun c => (⟨#[c]⟩ : Str))).length = cs.length := by
          unfold Str.length
          rw [← Array.length_toList, ej]
        rw [this]; unfold big; show 1 + cs.length ≤ _; omega
      simp_arith only [adds, ln]
      refine ⟨_, rfl, ⟨ch, cs, ?_, e2, hca, by omega⟩, s4.le (by omega), k4⟩
      rw [cps_append, ej]
      rfl
end Rf
end
section
namespace Rf
open PySem L2
theorem flat_strs (ss : List Str) : (ss.map D.str).all flatD = true := by induction ss <;> simp_all [flatD]
theorem any_strs (x : Str) (ss : List Str) : (ss.map D.str).any (fun y => eqFlat y (.str x)) = decide (x ∈ ss) := by
  induction ss with
  | nil => rfl
  | cons a ss ih =>
    rw [List.map_cons, List.any_cons, ih]
    show ((a == x) || decide (x ∈ ss)) = decide (x ∈ a :: ss)
    by_cases h : a = x
    · subst h; simp
    · have : ¬ x = a := fun e => h e.symm
      simp [h, this]
theorem inD_lst (x : Str) (ss : List Str) : inD (.str x) (.lst (ss.map .str)) = some (decide (x ∈ ss)) := by
  show (if flatD (.str x) && (ss.map D.str).all flatD then some ((ss.map D.str).any fun y => eqFlat y (.str x)) else none) = _
  rw [flat_strs, any_strs]; rfl
theorem inD_tup (x : Str) (ss : List Str) : inD (.str x) (.tup (ss.map .str)) = some (decide (x ∈ ss)) := by
  show (if flatD (.str x) && (ss.map D.str).all flatD then some ((ss.map D.str).any fun y => eqFlat y (.str x)) else none) = _
  rw [flat_strs, any_strs]; rfl
theorem len_of_sub {α : Type} [DecidableEq α] : ∀ {l m : List α}, l.Nodup → (∀ x ∈ l, x ∈ m) → l.length ≤ m.length
  | [], m, _, _ => Nat.zero_le _
  | x :: l, m, nd, h => by
    have hx := h x (List.mem_cons_self ..)
    have := len_of_sub (l := l) (m := m.erase x) (List.nodup_cons.mp nd).2 fun y hy => by
      have hy' := h y (List.mem_cons_of_mem _ hy)
      have ne : y ≠ x := fun e => (List.nodup_cons.mp nd).1 (e ▸ hy)
      exact (List.mem_erase_of_ne ne).mpr hy'
    rw [List.length_erase_of_mem hx] at this
    have : 0 < m.length := List.length_pos_of_mem hx
    rw [List.length_cons]
    omega
def qs : List Str := (Str.ofString "abcdefghijklmnop").cps.toList.map fun c => (⟨#[c]⟩ : Str) ++ Str.ofString "q7"
theorem qs_ok : ∀ w ∈ qs, NameOk w := fun w hw => nameB_ok (List.all_eq_true.mp (by decide +kernel : qs.all nameB = true) w hw)
theorem qs_nd : qs.Nodup := by decide +kernel
theorem qs_len : qs.length = 16 := by decide +kernel
def NamesS (g : List D → Sto → R D) : Prop := ∀ Ω s b c m, Sp Ω s b c → 0 ≤ m → m ≤ 12 → c + 10 * m < 2 ^ 40 → ∃ (ns : List Str) (Ω' : Sto), g [.hd s, .int m] Ω = .ok (.lst (ns.map .str)) Ω' ∧ (ns.length : Int) = m ∧ (∀ n ∈ ns, NameOk n) ∧ Sp Ω' s b (c + 10 * m) ∧ Kp s b Ω Ω'
theorem names_ok {ft : FT} (h : Has ft "_law_name" NameS) (hd : ft.dfl "_law_name" = []) : NamesS (runD ft 2 7 C.s__law_names) := by
  intro Ω s b c m hs hm0 hm1 hc
  suffices h : ∃ e Ω', runD ft 2 7 C.s__law_names [.hd s, .int m] Ω = .ok e Ω' ∧ ∃ ns : List Str, e = .lst (ns.map .str) ∧ (ns.length : Int) = m ∧ (∀ n ∈ ns, NameOk n) ∧ Sp Ω' s b (c + 10 * m) ∧ Kp s b Ω Ω' by
    obtain ⟨e, Ω', e1, ys, rfl, h⟩ := h
    exact ⟨ys, Ω', e1, h⟩
  obtain ⟨sl, bl⟩ := hs.lt
  refine run_of rfl ?_
  show SW (exL ft C.s__law_names [some (.hd s), some (.int m), none, none, none, none, none] Ω) _ _
  unfold C.s__law_names
  rw [SW_cons]
  simp_arith only []
  generalize hL : Ω.length = L at *
  rw [SW_cons]
  have inr : inR m = true := inR_mk (by omega) (by omega)
  have rl : (rngD 0 m).length = m.toNat := by unfold rngD; simp
  simp_arith only [inr]
  refine for_of (fun i ρ Ω' => ∃ (z1 z2 : Option D) (fs : List Str), ρ = [some (.hd s), some (.int m), some (.hd L), z1, z2, none, none] ∧ Ω'[L]? = some (.lst (fs.map .str)) ∧ fs.length = i ∧ (∀ n ∈ fs, NameOk n) ∧ Sp Ω' s b (c + 10 * i) ∧ Kp s b Ω Ω') ?_ (fun i x ρ Ω1 hx hi => ?_) (fun ρ Ω1 hi => ?_)
  · refine ⟨none, none, [], rfl, ?_, rfl, by simp, hs.at_ ?_ ?_ (by omega), ⟨by rw [List.length_append]; omega, fun i hi _ _ => ?_⟩⟩
    · rw [List.getElem?_append_right (by omega), hL, Nat.sub_self]; rfl
    · exact List.getElem?_append_left (by omega)
    · exact List.getElem?_append_left (by omega)
    · exact List.getElem?_append_left (by omega)
  · obtain ⟨z1, z2, fs, rfl, hf, hfl, hfn, s1, k1⟩ := hi
    have hi : i < m.toNat := by have := (List.getElem?_eq_some_iff.mp hx).1; omega
    rw [SW_cons]
    simp_arith only [hd]
    refine call_of h fun g hg => ?_
    obtain ⟨nm, Ω2, e, hn, s2, k2⟩ := hg Ω1 s b (c + 10 * i) s1 (by omega)
    refine ⟨_, _, e, ?_⟩
    simp_arith only [iterD]
    refine lc_pure (fun d => match d with | .str t => some (.str (t ++ Str.ofString "q7")) | _ => none) (by rw [List.length_map]; decide +kernel) (fun y hy => ?_) ?_
    · obtain ⟨ch, hch, rfl⟩ := List.mem_map.mp hy
      have l3 : (⟨#[ch]⟩ : Str).length + (Str.ofString "q7").length ≤ big := by
        have : (⟨#[ch]⟩ : Str).length = 1 := rfl
        have : (Str.ofString "q7").length = 2 := by decide
        unfold big; omega
      simp_arith only [adds, l3]
      exact ⟨trivial, trivial⟩
    · have eq : (List.map (fun c => D.str ⟨#[c]⟩) (Str.ofString "abcdefghijklmnop").cps.toList).filterMap (fun d => match d with | .str t => some (D.str (t ++ Str.ofString "q7")) | _ => none) = qs.map .str := by
        unfold qs
        generalize (Str.ofString "abcdefghijklmnop").cps.toList = cs
        induction cs with
        | nil => rfl
        | cons a cs ih => simp only [List.map_cons, List.filterMap_cons, ih]
      rw [eq]
      simp_arith only [addl]
      have lq : 1 + (qs.map D.str).length ≤ big := by rw [List.length_map, qs_len]; decide
      simp_arith only [lq]
      rw [SW_cons]
      have f2 : Ω2[L]? = some (.lst (fs.map .str)) := (k2.at_ L (by have := (List.getElem?_eq_some_iff.mp hf).1; omega) (by omega) (by omega)).trans hf
      have lq2 : (D.str nm :: qs.map D.str) = (nm :: qs).map D.str := rfl
      simp_arith only [lk_hl Ω2 f2, iterD, seqD]
      rw [lq2]
      refine lc_pure (fun d => match d with | .str t => if t ∈ fs then none else some (.str t) | _ => none) (by rw [List.length_map, List.length_cons, qs_len]; decide) (fun y hy => ?_) ?_
      · obtain ⟨t, ht, rfl⟩ := List.mem_map.mp hy
        simp_arith only [lk_hl Ω2 f2, inD_lst]
        by_cases hin : t ∈ fs
        · simp_arith only [hin, decide_true]
          exact ⟨trivial, trivial⟩
        · simp_arith only [hin, decide_false]
          exact ⟨trivial, trivial⟩
      · have ef : ∀ ts : List Str, (ts.map D.str).filterMap (fun d => match d with | .str t => if t ∈ fs then none else some (D.str t) | _ => none) = (ts.filter fun t => !decide (t ∈ fs)).map .str := fun ts => by
          induction ts with
          | nil => rfl
          | cons a ts ih =>
            simp only [List.map_cons, List.filterMap_cons, List.filter_cons, ih]
            by_cases ha : a ∈ fs <;> simp [ha]
        rw [ef]
        cases e2 : (nm :: qs).filter fun t => !decide (t ∈ fs) with
        | nil =>
          have all : ∀ t ∈ qs, t ∈ fs := fun t ht => by
            have := List.filter_eq_nil_iff.mp e2 t (List.mem_cons_of_mem _ ht)
            simpa using this
          have := len_of_sub qs_nd all
          rw [qs_len] at this
          omega
        | cons t ts =>
          have ht : t ∈ (nm :: qs).filter fun t => !decide (t ∈ fs) := by rw [e2]; exact List.mem_cons_self ..
          have htn : NameOk t := by
            rcases List.mem_cons.mp (List.mem_filter.mp ht).1 with rfl | h
            · exact hn
            · exact qs_ok t h
          simp_arith only [f2, List.length_map]
          rw [if_pos (by unfold big; omega)]
          simp_arith only []
          rw [SW_nil]
          refine ⟨_, _, fs ++ [t], rfl, by rw [set_get f2, List.map_append]; rfl, by simp [hfl], fun n hn' => ?_, s2.at_ ?_ ?_ (by omega), ⟨?_, fun j hj g1 g2 => ?_⟩⟩
          · rcases List.mem_append.mp hn' with h | h
            · exact hfn n h
            · have : n = t := by simpa using h
              rw [this]; exact htn
          · exact List.getElem?_set_ne (by omega)
          · exact List.getElem?_set_ne (by omega)
          · rw [List.length_set]; exact Nat.le_trans k1.len k2.len
          · rw [List.getElem?_set_ne (by omega)]
            exact (k1.trans k2).at_ j hj g1 g2
  · obtain ⟨z1, z2, fs, rfl, hf, hfl, hfn, s1, k1⟩ := hi
    rw [rl] at hfl s1
    rw [SW_cons]
    simp_arith only [hf]
    refine ⟨fs, rfl, by omega, hfn, s1.at_ ?_ ?_ (by omega), ⟨by rw [List.length_set]; exact k1.len, fun j hj g1 g2 => ?_⟩⟩
    · exact List.getElem?_set_ne (by omega)
    · exact List.getElem?_set_ne (by omega)
    · rw [List.getElem?_set_ne (by omega)]; exact k1.at_ j hj g1 g2
end Rf
end
section
namespace Rf
open PySem L2
/-! ### ascending names -/
def ltS (a b : Str) : Prop := a.cps.toList < b.cps.toList
def Asc (ns : List Str) : Prop := ns.Pairwise ltS
theorem ltS_ne {a b : Str} (h : ltS a b) : a ≠ b := fun e => by subst e; exact List.lt_irrefl _ h
theorem ltS_of {a b : Str} (h : leS a b = true) (ne : a ≠ b) : ltS a b := by
  by_cases hl : a.cps.toList < b.cps.toList
  · exact hl
  · exact absurd (leS_anti h (decide_eq_true hl)) ne
theorem asc_nd {ns : List Str} (h : Asc ns) : ns.Nodup := h.imp fun h => ltS_ne h
theorem sortS_mem {ss : List Str} {x : Str} : x ∈ sortS ss ↔ x ∈ ss := by
  unfold sortS
  rw [(List.mergeSort_perm _ _).mem_iff, once_mem]
theorem sortS_asc (ss : List Str) : Asc (sortS ss) := by
  unfold Asc sortS
  have h1 : ((once ss).mergeSort leS).Pairwise fun a b => leS a b = true := List.pairwise_mergeSort (fun a b c h h' => leS_trans a b c h h') leS_total _
  have h2 : ((once ss).mergeSort leS).Nodup := (List.mergeSort_perm _ _).nodup_iff.mpr (once_nodup ss)
  exact (h1.and h2).imp fun h => ltS_of h.1 h.2
theorem sortS_len (ss : List Str) : (sortS ss).length ≤ ss.length := by
  unfold sortS
  rw [(List.mergeSort_perm _ _).length_eq]
  exact once_len ss
theorem sortS_asc_id {ns : List Str} (h : Asc ns) : sortS ns = ns := by
  refine uniqS ?_ ?_ ?_
  · exact List.pairwise_mergeSort (fun a b c h h' => leS_trans a b c h h') leS_total _
  · exact h.imp fun h => (leS_iff _ _).mpr (List.le_of_lt h)
  · refine (List.mergeSort_perm _ _).trans ?_
    exact (List.perm_ext_iff_of_nodup (once_nodup ns) (asc_nd h)).mpr fun x => once_mem ns x
theorem asc_ext {ns ms : List Str} (h : Asc ns) (h' : Asc ms) (e : ∀ x, x ∈ ns ↔ x ∈ ms) : ns = ms := by
  refine uniqS (h.imp fun h => (leS_iff _ _).mpr (List.le_of_lt h)) (h'.imp fun h => (leS_iff _ _).mpr (List.le_of_lt h)) ?_
  exact (List.perm_ext_iff_of_nodup (asc_nd h) (asc_nd h')).mpr e
/-! ### links -/
def pr (p : Str × Str) : D := .tup [.str p.1, .str p.2]
/-- pairs that rise -/
def ltP (p q : Str × Str) : Prop := ltS p.1 q.1 ∨ (p.1 = q.1 ∧ ltS p.2 q.2)
def AscP (ls : List (Str × Str)) : Prop := ls.Pairwise ltP
theorem ltS_irr {a : Str} (h : ltS a a) : False := List.lt_irrefl _ h
theorem ltS_tr {a b c : Str} (h : ltS a b) (h' : ltS b c) : ltS a c := List.lt_trans h h'
theorem ltP_irr {p : Str × Str} (h : ltP p p) : False := by
  rcases h with h | ⟨_, h⟩
  · exact ltS_irr h
  · exact ltS_irr h
theorem ltP_tr {p q r : Str × Str} (h : ltP p q) (h' : ltP q r) : ltP p r := by
  rcases h with h | ⟨e, h⟩
  · rcases h' with h' | ⟨e', h'⟩
    · exact .inl (ltS_tr h h')
    · exact .inl (e' ▸ h)
  · rcases h' with h' | ⟨e', h'⟩
    · exact .inl (e ▸ h')
    · exact .inr ⟨e.trans e', ltS_tr h h'⟩
theorem ascP_nd {ls : List (Str × Str)} (h : AscP ls) : ls.Nodup := h.imp fun h e => by subst e; exact ltP_irr h
theorem ascP_ext {ls ms : List (Str × Str)} (h : AscP ls) (h' : AscP ms) (e : ∀ x, x ∈ ls ↔ x ∈ ms) : ls = ms :=
  List.Perm.eq_of_pairwise (le := ltP) (fun a b _ _ h1 h2 => (ltP_irr (ltP_tr h1 h2)).elim) h h' ((List.perm_ext_iff_of_nodup (ascP_nd h) (ascP_nd h')).mpr e)
theorem ascP_of {qs : List (Str × Str)} (h : (qs.map fun p => [p.1, p.2]).Pairwise fun a b => leSs a b = true) (nd : qs.Nodup) : AscP qs := by
  have h2 := List.pairwise_map.mp h
  refine (h2.and nd).imp fun {p q} ⟨h1, h2⟩ => ?_
  have h1 : (if p.1 = q.1 then (if p.2 = q.2 then leSs [] [] else leS p.2 q.2) else leS p.1 q.1) = true := h1
  by_cases e : p.1 = q.1
  · rw [if_pos e] at h1
    by_cases e2 : p.2 = q.2
    · exact absurd (Prod.ext e e2) h2
    · rw [if_neg e2] at h1
      exact .inr ⟨e, ltS_of h1 e2⟩
  · rw [if_neg e] at h1
    exact .inl (ltS_of h1 e)
def LinksOk (ns : List Str) (ls : List (Str × Str)) : Prop := ∀ p ∈ ls, p.1 ∈ ns ∧ p.2 ∈ ns ∧ ltS p.1 p.2
theorem GD_str {s : Str} (h : NameOk s) : GD (.str s) := by
  refine ⟨_, rfl, ?_, by simp [PyData.depth]⟩
  rw [PyData.canLay0]
  obtain ⟨a, t, e, h1, h2, _⟩ := h
  unfold PyData.strOk
  rw [← Array.all_toList, e]
  have k1 : ∀ x ∈ abc, x < 0x110000 := by decide +kernel
  have k2 : ∀ x ∈ alnum, x < 0x110000 := by decide +kernel
  rw [List.all_eq_true]
  intro x hx
  rcases List.mem_cons.mp hx with rfl | h
  · exact decide_eq_true (k1 _ h1)
  · exact decide_eq_true (k2 x (h2 x h))
theorem cut_mem {α : Type} {xs : List α} {lo hi : Option Int} {x : α} (h : x ∈ cutD xs lo hi) : x ∈ xs := List.mem_of_mem_drop (List.mem_of_mem_take h)
theorem cut_map {α β : Type} (f : α → β) (xs : List α) (lo hi : Option Int) : cutD (xs.map f) lo hi = (cutD xs lo hi).map f := by
  unfold cutD
  rw [List.length_map, List.map_take, List.map_drop]
theorem cut_len {α : Type} (xs : List α) {k : Nat} : (cutD xs none (some (k : Int))).length ≤ k := by
  unfold cutD
  rw [HT.sIx_nat, HT.sIx_none, List.length_take]
  omega
theorem perm_map_inv {α β : Type} {f : α → β} {ys : List β} {xs : List α} (h : ys.Perm (xs.map f)) : ∃ zs : List α, ys = zs.map f ∧ zs.Perm xs := by
  induction xs generalizing ys with
  | nil => exact ⟨[], by simpa using h, .nil⟩
  | cons x xs ih =>
    have hx : f x ∈ ys := h.symm.subset (List.mem_cons_self ..)
    obtain ⟨a, b, rfl⟩ := List.append_of_mem hx
    have h2 : (a ++ b).Perm (xs.map f) := by
      have := (List.perm_middle (a := f x) (l₁ := a) (l₂ := b)).symm.trans h
      exact List.Perm.cons_inv this
    obtain ⟨zs, e, hz⟩ := ih h2
    obtain ⟨z1, z2, rfl, e1, e2⟩ := List.append_eq_map_iff.mp e
    refine ⟨z1 ++ x :: z2, by simp [e1, e2], ?_⟩
    exact (List.perm_middle).trans (List.Perm.cons x hz)
end Rf
end
section
namespace Rf
open PySem L2
def LinksS (g : List D → Sto → R D) : Prop := ∀ Ω s b c ns, Sp Ω s b c → Asc ns → (∀ n ∈ ns, NameOk n) → ns.length ≤ 12 → c + 200 < 2 ^ 40 → ∃ (ls : List (Str × Str)) (Ω' : Sto), g [.hd s, .lst (ns.map .str), .int 40] Ω = .ok (.lst (ls.map pr)) Ω' ∧ LinksOk ns ls ∧ AscP ls ∧ ls.length ≤ 40 ∧ Sp Ω' s b (c + 200) ∧ Kp s b Ω Ω'
theorem sort2 {x y : Str} (ne : x ≠ y) : ∃ a b, sortS [x, y] = [a, b] ∧ ltS a b ∧ ((a = x ∧ b = y) ∨ (a = y ∧ b = x)) := by
  have as := sortS_asc [x, y]
  have mem : ∀ z, z ∈ sortS [x, y] ↔ z ∈ [x, y] := fun z => sortS_mem
  by_cases h : ltS x y
  · have e : sortS [x, y] = [x, y] := asc_ext as (by unfold Asc; simp [h]) mem
    exact ⟨x, y, e, h, .inl ⟨rfl, rfl⟩⟩
  · have h' : ltS y x := ltS_of (decide_eq_true h) (Ne.symm ne)
    have e : sortS [x, y] = [y, x] := asc_ext as (by unfold Asc; simp [h']) fun z => by rw [mem]; simp [or_comm]
    exact ⟨y, x, e, h', .inr ⟨rfl, rfl⟩⟩
theorem pairs_ok {L : Nat} {ft : FT} {ns : List Str} {s b : Nat} {Ω Ω0 : Sto} {c : Int} {ρ1 ρ2 : Option D} {w : D} {N : Env → Sto → Prop} {q : D → Sto → Prop} (hl : ns.length ≤ 12) (hasc : Asc ns) (hs : Sp Ω s b c) (h0 : Ω[L]? = some (.lst [])) (hsL : s ≠ L) (hbL : b ≠ L) (hk : Kp s b Ω0 Ω) (h0L : Ω0.length ≤ L)
    (fin : ∀ z (ps : List (Str × Str)) Ω', Ω'[L]? = some (.lst (ps.map pr)) → LinksOk ns ps → AscP ps → ps.length ≤ 144 → Sp Ω' s b c → Kp s b Ω0 Ω' → N [some (.hd s), some (.lst (ns.map .str)), some (.int 40), z, some (.hd L), some w, none, none, none, none] Ω') :
    SW (exS ft (S.for (.nm 3) (.val (.var 1)) (.cons (.expr (.meth (.var 4) .extend (.cons (.lc [9] (.nm 9) (.val (.var 1)) (.some (.cmp .Lt (.var 3) (.var 9))) (.tup (.cons (.var 3) (.cons (.var 9) .nil)))) .nil))) .nil)) [some (.hd s), some (.lst (ns.map .str)), some (.int 40), none, some (.hd L), some w, none, none, none, none] Ω) N q := by
  simp_arith only [iterD, seqD]
  refine for_of (fun i ρ Ω' => ∃ (z : Option D) (ps : List (Str × Str)), ρ = [some (.hd s), some (.lst (ns.map .str)), some (.int 40), z, some (.hd L), some w, none, none, none, none] ∧ Ω'[L]? = some (.lst (ps.map pr)) ∧ LinksOk ns ps ∧ AscP ps ∧ (∀ p ∈ ps, p.1 ∈ ns.take i) ∧ ps.length ≤ i * 12 ∧ Sp Ω' s b c ∧ Kp s b Ω0 Ω') ⟨none, [], rfl, h0, fun p hp => by simp at hp, .nil, fun p hp => by simp at hp, by simp, hs, hk⟩ (fun i x ρ Ω1 hx hi => ?_) (fun ρ Ω1 hi => ?_)
  · obtain ⟨z, ps, rfl, hf, hp, hpa, hpt, hpl, s1, k1⟩ := hi
    rw [List.getElem?_map] at hx
    cases e : ns[i]? with
    | none => rw [e] at hx; cases hx
    | some n =>
      rw [e] at hx
      cases hx
      have hi : i < ns.length := (List.getElem?_eq_some_iff.mp e).1
      have hn : n ∈ ns := List.mem_of_getElem? e
      rw [SW_cons]
      simp_arith only [lk_hl Ω1 hf, iterD, seqD]
      refine lc_pure (fun d => match d with | .str t => if n.cps.toList < t.cps.toList then some (pr (n, t)) else none | _ => none) (by rw [List.length_map]; unfold big; omega) (fun y hy => ?_) ?_
      · obtain ⟨t, ht, rfl⟩ := List.mem_map.mp hy
        simp_arith only []
        by_cases hlt : n.cps.toList < t.cps.toList
        · simp_arith only [hlt, decide_true]
          exact ⟨rfl, trivial⟩
        · simp_arith only [hlt, decide_false]
          exact ⟨trivial, trivial⟩
      · have ef : ∀ ts : List Str, (ts.map D.str).filterMap (fun d => match d with | .str t => if n.cps.toList < t.cps.toList then some (pr (n, t)) else none | _ => none) = ((ts.filter fun t => decide (n.cps.toList < t.cps.toList)).map fun t => (n, t)).map pr := fun ts => by
          induction ts with
          | nil => rfl
          | cons a ts ih =>
            simp only [List.map_cons, List.filterMap_cons, List.filter_cons, ih]
            by_cases ha : n.cps.toList < a.cps.toList <;> simp [ha]
        rw [ef]
        simp_arith only [hf, List.length_map]
        have fl : (ns.filter fun t => decide (n.cps.toList < t.cps.toList)).length ≤ 12 := Nat.le_trans (List.length_filter_le _ _) hl
        have i12 : i * 12 ≤ 144 := by omega
        rw [if_pos (by unfold big; omega)]
        simp_arith only []
        rw [SW_nil]
        refine ⟨_, ps ++ (ns.filter fun t => decide (n.cps.toList < t.cps.toList)).map fun t => (n, t), rfl, by rw [set_get hf, List.map_append], fun p hpp => ?_, ?_, fun p hpp => ?_, ?_, s1.at_ ?_ ?_ (Int.le_refl _), ⟨by rw [List.length_set]; exact k1.len, fun j hj g1 g2 => ?_⟩⟩
        · rcases List.mem_append.mp hpp with h | h
          · exact hp p h
          · obtain ⟨t, ht, rfl⟩ := List.mem_map.mp h
            have := List.mem_filter.mp ht
            have h3 : n.cps.toList < t.cps.toList := of_decide_eq_true this.2
            exact ⟨hn, this.1, h3⟩
        · refine List.pairwise_append.mpr ⟨hpa, List.pairwise_map.mpr ((List.Pairwise.sublist List.filter_sublist hasc).imp fun h => .inr ⟨rfl, h⟩), fun p hp1 q hq1 => ?_⟩
          obtain ⟨t, _, rfl⟩ := List.mem_map.mp hq1
          obtain ⟨j, hj, ej⟩ := List.mem_iff_getElem.mp (hpt p hp1)
          rw [List.length_take] at hj
          rw [List.getElem_take] at ej
          have e2 : ns[i] = n := by rw [List.getElem?_eq_getElem hi] at e; exact Option.some.inj e
          refine .inl ?_
          rw [← ej, ← e2]
          exact List.pairwise_iff_getElem.mp hasc j i (by omega) hi (by omega)
        · have et : ns.take (i + 1) = ns.take i ++ [n] := by rw [List.take_add_one, e]; rfl
          rw [et]
          rcases List.mem_append.mp hpp with h | h
          · exact List.mem_append_left _ (hpt p h)
          · obtain ⟨t, ht, rfl⟩ := List.mem_map.mp h
            exact List.mem_append_right _ (List.mem_singleton.mpr rfl)
        · rw [List.length_append, List.length_map]; omega
        · exact List.getElem?_set_ne (Ne.symm hsL)
        · exact List.getElem?_set_ne (Ne.symm hbL)
        · rw [List.getElem?_set_ne (by omega)]; exact k1.at_ j hj g1 g2
  · obtain ⟨z, ps, rfl, hf, hp, hpa, hpt, hpl, s1, k1⟩ := hi
    rw [List.length_map] at hpl
    exact fin z ps Ω1 hf hp hpa (by omega) s1 k1
theorem slc_l (xs : List D) (lo hi : Option Int) : slcD (.lst xs) lo hi = some (.lst (cutD xs lo hi)) := rfl
theorem slc_t (xs : List D) (lo hi : Option Int) : slcD (.tup xs) lo hi = some (.tup (cutD xs lo hi)) := rfl
theorem cut_sub {α : Type} (xs : List α) (lo hi : Option Int) : (cutD xs lo hi).Sublist xs := (List.take_sublist _ _).trans (List.drop_sublist _ _)
theorem cut_ok {ns : List Str} {ps : List (Str × Str)} (h : LinksOk ns ps) (ha : AscP ps) : ∃ ls : List (Str × Str), cutD (ps.map pr) none (some 40) = ls.map pr ∧ LinksOk ns ls ∧ AscP ls ∧ ls.length ≤ 40 :=
  ⟨cutD ps none (some 40), cut_map pr ps none (some 40), fun p hp => h p (cut_mem hp), List.Pairwise.sublist (cut_sub _ _ _) ha, cut_len ps (k := 40)⟩
theorem tupsD_pr (ps : List (Str × Str)) : tupsD (ps.map pr) = some (ps.map fun p => [p.1, p.2]) := by
  induction ps with
  | nil => rfl
  | cons p ps ih =>
    show (match strsD [.str p.1, .str p.2], tupsD (ps.map pr) with | some s, some r => some (s :: r) | _, _ => none) = _
    rw [ih]; rfl
theorem sorted_pr (ps : List (Str × Str)) : ∃ qs : List (Str × Str), biD .sorted [.lst (ps.map pr)] = some (.lst (qs.map pr)) ∧ qs.Perm ps ∧ (qs.map fun p => [p.1, p.2]).Pairwise fun a b => leSs a b = true := by
  cases ps with
  | nil => exact ⟨[], by simp [biD, strsD], .nil, .nil⟩
  | cons p ps =>
    have e1 : strsD ((p :: ps).map pr) = none := rfl
    have al : ((p :: ps).map fun p => [p.1, p.2]).all (fun t => !t.isEmpty) = true := by rw [List.all_map]; exact List.all_eq_true.mpr fun _ _ => rfl
    have pm := List.mergeSort_perm ((p :: ps).map fun p => [p.1, p.2]) leSs
    obtain ⟨zs, ez, hz⟩ := perm_map_inv pm
    refine ⟨zs, ?_, hz, by rw [← ez]; exact List.pairwise_mergeSort leSs_trans leSs_total _⟩
    show (match strsD ((p :: ps).map pr) with | some ss => if ss.length < 64 then some (D.lst ((ss.mergeSort leS).map .str)) else none | none => match tupsD ((p :: ps).map pr) with | some ts => if ts.length ≤ 1 ∨ ts.all (fun t => !t.isEmpty) = true then some (D.lst ((ts.mergeSort leSs).map fun (t : List Str) => D.tup (t.map .str))) else none | none => none) = _
    rw [e1, tupsD_pr]
    simp only [al, or_true, if_true]
    rw [ez, List.map_map]
    rfl
/-- pairs that are unlike, turned about too -/
def unl (p q : Str × Str) : Prop := ¬ ((p.1 = q.1 ∧ p.2 = q.2) ∨ (p.1 = q.2 ∧ p.2 = q.1))
theorem unl_tr {p r q : Str × Str} (h : unl p r) (h1 : ¬ unl p q) (h2 : ¬ unl r q) : False := by
  have h1 := Classical.not_not.mp h1
  have h2 := Classical.not_not.mp h2
  refine h ?_
  rcases h1 with ⟨a, b⟩ | ⟨a, b⟩ <;> rcases h2 with ⟨c, d⟩ | ⟨c, d⟩
  · exact .inl ⟨a.trans c.symm, b.trans d.symm⟩
  · exact .inr ⟨a.trans d.symm, b.trans c.symm⟩
  · exact .inr ⟨a.trans d.symm, b.trans c.symm⟩
  · exact .inl ⟨a.trans c.symm, b.trans d.symm⟩
/-- the pairs of a row, and the ring's last one -/
theorem row_unl {row : List Str} (nd : row.Nodup) : (row.zip (row.drop 1)).Pairwise unl ∧ (2 < row.length → ∀ p ∈ row.zip (row.drop 1), ∀ q ∈ (row.drop (row.length - 1)).zip (row.take 1), unl p q) := by
  have inj : ∀ (i j : Nat) (hi : i < row.length) (hj : j < row.length), row[i] = row[j] → i = j := fun i j hi hj e => by
    rcases Nat.lt_trichotomy i j with h | h | h
    · exact absurd e (List.pairwise_iff_getElem.mp nd i j hi hj h)
    · exact h
    · exact absurd e.symm (List.pairwise_iff_getElem.mp nd j i hj hi h)
  constructor
  · rw [List.pairwise_iff_getElem]
    intro i j hi hj hij
    rw [List.length_zip, List.length_drop] at hi hj
    simp only [List.getElem_zip, List.getElem_drop]
    rintro (⟨e1, _⟩ | ⟨e1, _⟩)
    · have := inj i j (by omega) (by omega) e1
      omega
    · have := inj i (1 + j) (by omega) (by omega) e1
      omega
  · intro h2 p hp q hq
    obtain ⟨i, hi, rfl⟩ := List.mem_iff_getElem.mp hp
    obtain ⟨j, hj, rfl⟩ := List.mem_iff_getElem.mp hq
    rw [List.length_zip, List.length_drop] at hi
    rw [List.length_zip, List.length_drop, List.length_take] at hj
    simp only [List.getElem_zip, List.getElem_drop, List.getElem_take]
    rintro (⟨e1, _⟩ | ⟨e1, e2⟩)
    · have := inj i (row.length - 1 + j) (by omega) (by omega) e1
      omega
    · have h3 := inj i j (by omega) (by omega) e1
      have h4 := inj (1 + i) (row.length - 1 + j) (by omega) (by omega) e2
      omega
theorem links_ok {ft : FT} (h : Has ft "_law_take" TakeS) (h1 : Has ft "_law_mixed" MixedS) (h2 : Has ft "_law_rising" RisingS) (hd : ft.dfl "_law_take" = []) (hd1 : ft.dfl "_law_mixed" = []) (hd2 : ft.dfl "_law_rising" = []) : LinksS (runD ft 3 10 C.s__law_links) := by
  intro Ω s b c ns hs ha hn hl hc
  suffices h : ∃ e Ω', runD ft 3 10 C.s__law_links [.hd s, .lst (ns.map .str), .int 40] Ω = .ok e Ω' ∧ ∃ ls : List (Str × Str), e = .lst (ls.map pr) ∧ LinksOk ns ls ∧ AscP ls ∧ ls.length ≤ 40 ∧ Sp Ω' s b (c + 200) ∧ Kp s b Ω Ω' by
    obtain ⟨e, Ω', e1, ys, rfl, h⟩ := h
    exact ⟨ys, Ω', e1, h⟩
  obtain ⟨sl, bl⟩ := hs.lt
  refine run_of rfl ?_
  show SW (exL ft C.s__law_links [some (.hd s), some (.lst (ns.map .str)), some (.int 40), none, none, none, none, none, none, none] Ω) _ _
  unfold C.s__law_links
  rw [SW_cons]
  simp_arith only [hd]
  generalize hL : Ω.length = L at *
  have hs0 : Sp (Ω ++ [Ob.lst []]) s b c := hs.at_ (List.getElem?_append_left (by omega)) (List.getElem?_append_left (by omega)) (Int.le_refl _)
  have k0 : Kp s b Ω (Ω ++ [Ob.lst []]) := ⟨by rw [List.length_append]; omega, fun i hi _ _ => List.getElem?_append_left hi⟩
  have hL0 : (Ω ++ [Ob.lst []])[L]? = some (.lst []) := by rw [List.getElem?_append_right (by omega), hL, Nat.sub_self]; rfl
  refine call_of h fun g hg => ?_
  obtain ⟨way, Ω2, e, w0, w1, s1, k1⟩ := hg _ s b c 6 hs0 (by omega) (by omega) (by omega)
  refine ⟨_, _, e, ?_⟩
  try simp_arith only []
  have hL2 : Ω2[L]? = some (.lst []) := (k1.at_ L (by rw [List.length_append]; simp; omega) (by omega) (by omega)).trans hL0
  rw [SW_cons]
  refine pairs_ok (ρ1 := none) (ρ2 := none) hl ha s1 hL2 (by omega) (by omega) (k0.trans k1) (by omega) fun z ps Ω3 hf hp hpa hpl s3 k3 => ?_
  rw [SW_cons]
  simp_arith only []
  by_cases hw0 : way = 0
  · simp_arith only [hw0, beq_self_eq_true]
    rw [SW_cons]
    simp_arith only [lk_hl Ω3 hf, slc_l]
    obtain ⟨ls, e1, e2, e4, e3⟩ := cut_ok hp hpa
    exact ⟨ls, by rw [e1], e2, e4, e3, s3.le (by omega), k3⟩
  · rw [if_neg (by simpa using hw0), SW_nil, SW_cons]
    simp_arith only []
    by_cases hw3 : way < 3
    · simp_arith only [hw3, decide_true]
      rw [SW_cons]
      simp_arith only [hd1]
      refine call_of h1 fun g hg => ?_
      obtain ⟨ys, Ω4, e, hy, s4, k4⟩ := hg Ω3 s b (c + 1) (.lst (ns.map .str)) (ns.map .str) s3 (by rw [List.length_map]; omega) (fun k => by simp) rfl (fun x hx => by obtain ⟨n, hn', rfl⟩ := List.mem_map.mp hx; exact GD_str (hn n hn')) (by rw [List.length_map]; omega)
      refine ⟨_, _, e, ?_⟩
      simp_arith only [hd1]
      obtain ⟨row, rfl, hrow⟩ := perm_map_inv hy
      have rnd : row.Nodup := hrow.nodup_iff.mpr (asc_nd ha)
      have rl : row.length = ns.length := hrow.length_eq
      have rin : ∀ x ∈ row, x ∈ ns := fun x hx => hrow.subset hx
      rw [SW_cons]
      simp_arith only [zipL, lstD, slc_l]
      have zl : ∀ xs ys : List Str, List.zipWith (fun x y => D.tup [x, y]) (xs.map D.str) (ys.map D.str) = (xs.zip ys).map pr := fun xs => by
        induction xs with
        | nil => intro ys; rfl
        | cons x xs ih => intro ys; cases ys with
          | nil => rfl
          | cons y ys => simp only [List.map_cons, List.zipWith_cons_cons, List.zip_cons_cons, ih]; rfl
      rw [cut_map, zl]
      have zlen : ∀ xs ys : List Str, (xs.zip ys).length ≤ xs.length := fun xs ys => by rw [List.length_zip]; omega
      have c1 : (((row.zip (cutD row (some 1) none)).map pr).length ≤ big) := by rw [List.length_map]; have := zlen row (cutD row (some 1) none); unfold big; omega
      rw [if_pos c1]
      simp_arith only []
      rw [SW_cons]
      simp_arith only [zipL, lstD, slc_l]
      rw [cut_map, cut_map, zl]
      have cl : ∀ lo hi, (cutD row lo hi).length ≤ row.length := fun lo hi => by unfold cutD; rw [List.length_take, List.length_drop]; omega
      have c2 : (((cutD row (some (-1)) none).zip (cutD row none (some 1))).map pr).length ≤ big := by
        rw [List.length_map]
        have := zlen (cutD row (some (-1)) none) (cutD row none (some 1))
        have := cl (some (-1)) none
        unfold big; omega
      rw [if_pos c2]
      simp_arith only []
      /- the rest, for any ring -/
      have fin : ∀ (ring : List (Str × Str)), ring.length ≤ 100 → (∀ p ∈ ring, p.1 ∈ ns ∧ p.2 ∈ ns ∧ p.1 ≠ p.2) → ring.Pairwise unl → SW (exL ft (SL.cons (S.ret (E.slc (E.bi Bi.sorted (EL.cons (E.lc [8] (Tg.nm 8) (Sr.val (E.var 7)) EO.none (E.bi Bi.tuple (EL.cons (E.call "_law_rising" (EL.cons (E.var 8) EL.nil) 0) EL.nil))) EL.nil)) EO.none (EO.some (E.var 2)))) SL.nil) [some (D.hd s), some (D.lst (ns.map D.str)), some (D.int 40), z, some (D.hd L), some (D.int way), some (D.lst (row.map D.str)), some (D.lst (ring.map pr)), none, none] Ω4)
          (fun _ _ => False) (fun d Ω' => ∃ ls : List (Str × Str), d = .lst (ls.map pr) ∧ LinksOk ns ls ∧ AscP ls ∧ ls.length ≤ 40 ∧ Sp Ω' s b (c + 200) ∧ Kp s b Ω Ω') := by
        intro ring hrl hr hru
        rw [SW_cons]
        simp_arith only [iterD, seqD, hd2]
        refine lc_pure (fun d => match d with | .tup [.str x, .str y] => some (.tup ((sortS [x, y]).map .str)) | _ => none) (by rw [List.length_map]; unfold big; omega) (fun y hy => ?_) ?_
        · obtain ⟨p, hp', rfl⟩ := List.mem_map.mp hy
          simp_arith only []
          refine call_of h2 fun g hg => ⟨_, _, hg (pr p) [p.1, p.2] _ rfl (by simp), ?_⟩
          simp_arith only []
          exact ⟨rfl, trivial⟩
        · have em : ∀ ps : List (Str × Str), (∀ p ∈ ps, p.1 ∈ ns ∧ p.2 ∈ ns ∧ p.1 ≠ p.2) → ps.Pairwise unl → ∃ qs : List (Str × Str), (ps.map pr).filterMap (fun d => match d with | .tup [.str x, .str y] => some (D.tup ((sortS [x, y]).map .str)) | _ => none) = qs.map pr ∧ LinksOk ns qs ∧ qs.Nodup ∧ ∀ q ∈ qs, ∃ p ∈ ps, ¬ unl p q := fun ps => by
            induction ps with
            | nil => intro _ _; exact ⟨[], rfl, fun p hp => by simp at hp, .nil, fun q hq => by simp at hq⟩
            | cons p ps ih =>
              intro hps hpu
              obtain ⟨hu1, hu2⟩ := List.pairwise_cons.mp hpu
              obtain ⟨qs, e1, e2, e5, e6⟩ := ih (fun q hq => hps q (List.mem_cons_of_mem _ hq)) hu2
              obtain ⟨g1, g2, g3⟩ := hps p (List.mem_cons_self ..)
              obtain ⟨a, b', ea, hab, hor⟩ := sort2 g3
              have nu : ¬ unl p (a, b') := fun z => z (hor.elim (fun h => .inl ⟨h.1.symm, h.2.symm⟩) (fun h => .inr ⟨h.2.symm, h.1.symm⟩))
              refine ⟨(a, b') :: qs, ?_, fun q hq => ?_, List.nodup_cons.mpr ⟨fun hm => ?_, e5⟩, fun q hq => ?_⟩
              · rw [List.map_cons, List.filterMap_cons, e1]
                show D.tup ((sortS [p.1, p.2]).map .str) :: _ = _
                rw [ea]
                rfl
              · rcases List.mem_cons.mp hq with rfl | h
                · rcases hor with ⟨rfl, rfl⟩ | ⟨rfl, rfl⟩
                  · exact ⟨g1, g2, hab⟩
                  · exact ⟨g2, g1, hab⟩
                · exact e2 q h
              · obtain ⟨r, hr1, hr2⟩ := e6 _ hm
                exact unl_tr (hu1 r hr1) nu hr2
              · rcases List.mem_cons.mp hq with rfl | h
                · exact ⟨p, List.mem_cons_self .., nu⟩
                · obtain ⟨r, hr1, hr2⟩ := e6 q h
                  exact ⟨r, List.mem_cons_of_mem _ hr1, hr2⟩
          obtain ⟨qs, e1, e2, e5, _⟩ := em ring hr hru
          rw [e1]
          obtain ⟨qs2, e3, e4, e7⟩ := sorted_pr qs
          simp_arith only [e3, slc_l]
          obtain ⟨ls, f1, f2, f4, f3⟩ := cut_ok (ns := ns) (ps := qs2) (fun p hp => e2 p (e4.subset hp)) (ascP_of e7 (e4.nodup_iff.mpr e5))
          exact ⟨ls, by rw [f1], f2, f4, f3, s4.le (by rw [List.length_map]; omega), k3.trans k4⟩
      have ec0 : cutD row (some 1) none = row.drop 1 := by
        unfold cutD
        rw [show (some 1 : Option Int) = some ((1 : Nat) : Int) from rfl, HT.sIx_nat, HT.sIx_none]
        by_cases hr0 : row.length = 0
        · have : row = [] := List.length_eq_zero_iff.mp hr0
          simp [this]
        · rw [show min 1 row.length = 1 by omega, List.take_of_length_le (by rw [List.length_drop]; omega)]
      have u1 : (row.zip (cutD row (some 1) none)).Pairwise unl := by rw [ec0]; exact (row_unl rnd).1
      have u2 : 2 < row.length → (row.zip (cutD row (some 1) none) ++ (cutD row (some (-1)) none).zip (cutD row none (some 1))).Pairwise unl := by
        intro h2l
        have ec1 : cutD row (some (-1)) none = row.drop (row.length - 1) := by
          unfold cutD
          have e0 : HT.sIx row.length 0 (some (-1)) = row.length - 1 := by
            show (if (-1 : Int) < 0 then ((-1 : Int) + (row.length : Int)).toNat else min (-1 : Int).toNat row.length) = _
            rw [if_pos (by decide)]; omega
          rw [e0, HT.sIx_none, List.take_of_length_le (by rw [List.length_drop]; omega)]
        have ec2 : cutD row none (some 1) = row.take 1 := by
          unfold cutD
          rw [show (some 1 : Option Int) = some ((1 : Nat) : Int) from rfl, HT.sIx_nat, HT.sIx_none]
          rw [show min 1 row.length = 1 by omega, List.drop_zero]
        rw [ec0, ec1, ec2]
        refine List.pairwise_append.mpr ⟨(row_unl rnd).1, ?_, (row_unl rnd).2 h2l⟩
        have l1 : ((row.drop (row.length - 1)).zip (row.take 1)).length ≤ 1 := by rw [List.length_zip, List.length_take]; omega
        match h : (row.drop (row.length - 1)).zip (row.take 1), l1 with
        | [], _ => exact .nil
        | [_], _ => exact List.pairwise_singleton _ _
      have z1 : ∀ p ∈ row.zip (cutD row (some 1) none), p.1 ∈ ns ∧ p.2 ∈ ns ∧ p.1 ≠ p.2 := by
        intro p hp
        have m := List.of_mem_zip (a := p.1) (b := p.2) hp
        refine ⟨rin _ m.1, rin _ (cut_mem m.2), ?_⟩
        obtain ⟨i, hi, e⟩ := List.mem_iff_getElem.mp hp
        have ec : cutD row (some 1) none = row.drop 1 := by
          unfold cutD
          rw [show (some 1 : Option Int) = some ((1 : Nat) : Int) from rfl, HT.sIx_nat, HT.sIx_none]
          by_cases hr0 : row.length = 0
          · have : row = [] := List.length_eq_zero_iff.mp hr0
            simp [this]
          · rw [show min 1 row.length = 1 by omega, List.take_of_length_le (by rw [List.length_drop]; omega)]
        have hz : i < row.length ∧ i + 1 < row.length := by
          rw [List.length_zip, ec, List.length_drop] at hi
          omega
        have e1 : p.1 = row[i] ∧ p.2 = row[i + 1] := by
          rw [← e]
          simp only [List.getElem_zip, ec, List.getElem_drop, true_and]
          congr 1
          omega
        rw [e1.1, e1.2]
        exact List.pairwise_iff_getElem.mp rnd i (i + 1) hz.1 hz.2 (Nat.lt_succ_self i)
      have z2 : 2 < row.length → ∀ p ∈ (cutD row (some (-1)) none).zip (cutD row none (some 1)), p.1 ∈ ns ∧ p.2 ∈ ns ∧ p.1 ≠ p.2 := by
        intro h2l p hp
        have m := List.of_mem_zip (a := p.1) (b := p.2) hp
        refine ⟨rin _ (cut_mem m.1), rin _ (cut_mem m.2), ?_⟩
        have ec1 : cutD row (some (-1)) none = row.drop (row.length - 1) := by
          unfold cutD
          have e0 : HT.sIx row.length 0 (some (-1)) = row.length - 1 := by
            show (if (-1 : Int) < 0 then ((-1 : Int) + (row.length : Int)).toNat else min (-1 : Int).toNat row.length) = _
            rw [if_pos (by decide)]; omega
          rw [e0, HT.sIx_none, List.take_of_length_le (by rw [List.length_drop]; omega)]
        have ec2 : cutD row none (some 1) = row.take 1 := by
          unfold cutD
          rw [show (some 1 : Option Int) = some ((1 : Nat) : Int) from rfl, HT.sIx_nat, HT.sIx_none]
          rw [show min 1 row.length = 1 by omega, List.drop_zero]
        rw [ec1, ec2] at m
        obtain ⟨i, hi, e1⟩ := List.mem_iff_getElem.mp m.1
        obtain ⟨j, hj, e2⟩ := List.mem_iff_getElem.mp m.2
        rw [List.length_drop] at hi
        rw [List.length_take] at hj
        rw [List.getElem_drop] at e1
        rw [List.getElem_take] at e2
        rw [← e1, ← e2]
        exact (List.pairwise_iff_getElem.mp rnd j (row.length - 1 + i) (by omega) (by omega) (by omega)).symm
      have l1 : (row.zip (cutD row (some 1) none)).length ≤ 12 := Nat.le_trans (zlen _ _) (by omega)
      have l2 : ((cutD row (some (-1)) none).zip (cutD row none (some 1))).length ≤ 12 := Nat.le_trans (zlen _ _) (Nat.le_trans (cl _ _) (by omega))
      generalize row.zip (cutD row (some 1) none) = r1 at *
      generalize (cutD row (some (-1)) none).zip (cutD row none (some 1)) = r2 at *
      have yes : 2 < row.length → ∀ x : List D, x = (List.replicate (1 : Int).toNat (r2.map pr)).flatten → op2D .Add (.lst (r1.map pr)) (.lst x) = some (.lst ((r1 ++ r2).map pr)) := fun _ x hx => by
        have e1 : x = r2.map pr := by rw [hx]; simp
        rw [e1, addl, if_pos (by simp only [List.length_map]; unfold big; omega), List.map_append]
      have noo : ∀ x : List D, x = (List.replicate (0 : Int).toNat (r2.map pr)).flatten → op2D .Add (.lst (r1.map pr)) (.lst x) = some (.lst (r1.map pr)) := fun x hx => by
        have e1 : x = [] := by rw [hx]; simp
        rw [e1, addl, if_pos (by simp only [List.length_map, List.length_nil]; unfold big; omega), List.append_nil]
      have m1 : op2D .Mult (.lst (r2.map pr)) (.int 1) = some (.lst (List.replicate (1 : Int).toNat (r2.map pr)).flatten) := by rw [mull, if_pos ⟨by decide, by decide, by simp only [List.length_map]; unfold big; simp; omega⟩]
      have m0 : op2D .Mult (.lst (r2.map pr)) (.int 0) = some (.lst (List.replicate (0 : Int).toNat (r2.map pr)).flatten) := by rw [mull, if_pos ⟨by decide, by decide, by simp⟩]
      by_cases hw2 : way = 2
      · rw [if_pos (by simpa using hw2)]
        simp_arith only [List.length_map]
        by_cases h2l : 2 < row.length
        · have e1 : decide ((2 : Int) < (row.length : Int)) = true := decide_eq_true (by omega)
          simp_arith only [e1, m1, yes h2l _ rfl]
          refine (fin (r1 ++ r2) (by rw [List.length_append]; omega) (fun p hp' => ?_) (u2 h2l)).mono (fun _ _ h => h.elim) (fun _ _ h => h)
          rcases List.mem_append.mp hp' with h | h
          · exact z1 p h
          · exact z2 h2l p h
        · have e1 : decide ((2 : Int) < (row.length : Int)) = false := decide_eq_false (by omega)
          simp_arith only [e1, m0, noo _ rfl]
          exact (fin r1 (by omega) z1 u1).mono (fun _ _ h => h.elim) (fun _ _ h => h)
      · rw [if_neg (by simpa using hw2)]
        simp_arith only [m0, noo _ rfl]
        exact (fin r1 (by omega) z1 u1).mono (fun _ _ h => h.elim) (fun _ _ h => h)
    · simp_arith only [hw3, decide_false]
      rw [SW_nil, SW_cons]
      simp_arith only [hf, iterD, seqD, hd]
      have s5 : Sp (Ω3.set L .dead) s b (c + 1) := s3.at_ (List.getElem?_set_ne (by omega)) (List.getElem?_set_ne (by omega)) (Int.le_refl _)
      have k5 : Kp s b Ω (Ω3.set L .dead) := ⟨by rw [List.length_set]; exact k3.len, fun j hj g1 g2 => by rw [List.getElem?_set_ne (by omega)]; exact k3.at_ j hj g1 g2⟩
      refine lc_of (fun i acc Ω' => ∃ qs : List (Str × Str), acc = qs.map pr ∧ qs.Sublist (ps.take i) ∧ Sp Ω' s b (c + 1 + i) ∧ Kp s b Ω Ω') (by rw [List.length_map]; unfold big; omega) ⟨[], rfl, by simp, by simpa using s5, k5⟩ (fun i x acc Ω5 hx hi => ?_) (fun acc Ω5 hi => ?_)
      · obtain ⟨qs, rfl, hq, s6, k6⟩ := hi
        rw [List.getElem?_map] at hx
        cases e : ps[i]? with
        | none => rw [e] at hx; cases hx
        | some p =>
          rw [e] at hx
          cases hx
          have hi : i < ps.length := (List.getElem?_eq_some_iff.mp e).1
          simp_arith only []
          refine call_of h fun g hg => ?_
          obtain ⟨v, Ω6, e', v0, v1, s7, k7⟩ := hg Ω5 s b (c + 1 + i) (way - 1) s6 (by omega) (by omega) (by omega)
          refine ⟨_, _, e', ?_⟩
          try simp_arith only []
          by_cases hv : v = 0
          · simp_arith only [hv, beq_self_eq_true]
            exact ⟨qs ++ [p], by simp [pr], by rw [List.take_add_one, e]; exact List.Sublist.append hq (List.Sublist.refl _), s7.le (by omega), k6.trans k7⟩
          · rw [if_neg (by simpa using hv)]
            exact ⟨qs, by simp, by rw [List.take_add_one, e]; exact hq.trans (List.sublist_append_left _ _), s7.le (by omega), k6.trans k7⟩
      · obtain ⟨qs, rfl, hq, s6, k6⟩ := hi
        rw [List.length_map] at s6 hq
        rw [List.take_length] at hq
        simp_arith only [slc_l]
        obtain ⟨ls, f1, f2, f4, f3⟩ := cut_ok (ns := ns) (ps := qs) (fun p hp' => hp p (hq.subset hp')) (List.Pairwise.sublist hq hpa)
        exact ⟨ls, by rw [f1], f2, f4, f3, s6.le (by omega), k6⟩
end Rf
end
section
namespace Rf
open PySem L2
/-! ### a drawn house: shares and links -/
def shD (ns : List Str) (f : Str → Rat) : D := .dk (ns.map fun n => (.inr n, frac (f n)))
structure HouseOk (ns : List Str) (f : Str → Rat) (ls : List (Str × Str)) : Prop where
  asc : Asc ns
  nm : ∀ n ∈ ns, NameOk n
  len : ns.length ≤ 12
  sh : ∀ n ∈ ns, ShareOk (f n)
  lk : LinksOk ns ls
  ll : ls.length ≤ 40
  ac : AscP ls
theorem fun_of {ns : List Str} (nd : ns.Nodup) : ∀ {rs : List Rat}, rs.length = ns.length → ∃ f : Str → Rat, ns.map f = rs := by
  induction ns with
  | nil => intro rs h; exact ⟨fun _ => 0, by simpa using (List.length_eq_zero_iff.mp (by simpa using h)).symm⟩
  | cons n ns ih =>
    intro rs h
    cases rs with
    | nil => simp at h
    | cons r rs =>
      obtain ⟨f, hf⟩ := ih (List.nodup_cons.mp nd).2 (rs := rs) (by simpa using h)
      refine ⟨fun x => if x = n then r else f x, ?_⟩
      rw [List.map_cons, if_pos rfl]
      congr 1
      rw [← hf]
      refine List.map_congr_left fun x hx => ?_
      rw [if_neg]
      intro e
      exact (List.nodup_cons.mp nd).1 (e ▸ hx)
theorem putKD_new {κ : Type} [DecidableEq κ] {kvs : List (κ × D)} {k : κ} {v : D} (h : k ∉ kvs.map (·.1)) : putKD kvs k v = kvs ++ [(k, v)] := by
  unfold putKD
  rw [if_neg]
  intro hh
  obtain ⟨x, hx, e⟩ := List.any_eq_true.mp hh
  have e : x.1 = k := of_decide_eq_true e
  exact h (List.mem_map.mpr ⟨x, hx, e⟩)
theorem mergeD_new {κ : Type} [DecidableEq κ] : ∀ {more kvs : List (κ × D)}, ((kvs ++ more).map (·.1)).Nodup → mergeD kvs more = kvs ++ more
  | [], kvs, _ => by simp [mergeD]
  | x :: more, kvs, h => by
    show mergeD (putKD kvs x.1 x.2) more = _
    have hx : x.1 ∉ kvs.map (·.1) := by
      intro hm
      rw [List.map_append, List.map_cons] at h
      exact (List.nodup_append.mp h).2.2 _ hm _ (List.mem_cons_self ..) rfl
    rw [putKD_new hx, mergeD_new (by simpa using h)]
    simp
theorem pairsD_map {α : Type} (k : α → Str) (v : α → D) (xs : List α) : pairsD (xs.map fun a => .tup [.str (k a), v a]) = some (xs.map fun a => (.inr (k a), v a)) := by
  induction xs with
  | nil => rfl
  | cons a xs ih =>
    show (match keyD (.str (k a)), pairsD (xs.map fun a => .tup [.str (k a), v a]) with | some k, some r => some ((k, v a) :: r) | _, _ => none) = _
    rw [ih]; rfl
theorem dict_new {α : Type} (k : α → Str) (v : α → D) (xs : List α) (nd : (xs.map k).Nodup) : biD .dict [.lst (xs.map fun a => .tup [.str (k a), v a])] = some (.dk (xs.map fun a => (.inr (k a), v a))) := by
  have e0 : biD .dict [.lst (xs.map fun a => .tup [.str (k a), v a])] = (match pairsD (xs.map fun a => .tup [.str (k a), v a]) with | some kvs => some (.dk (mergeD [] kvs)) | none => (tpairsD (xs.map fun a => .tup [.str (k a), v a])).map fun kvs => .dt (mergeD [] kvs)) := rfl
  rw [e0, pairsD_map]
  show some (D.dk (mergeD [] _)) = _
  rw [mergeD_new]
  · rfl
  · rw [List.nil_append, List.map_map]
    have : ((fun x : Key × D => x.1) ∘ fun a => ((.inr (k a) : Key), v a)) = (fun s : Str => (.inr s : Key)) ∘ k := rfl
    rw [this, ← List.map_map]
    exact List.Pairwise.map _ (fun a b h e => h (Sum.inr.inj e)) nd
def HouseS (g : List D → Sto → R D) : Prop := ∀ Ω s b c m (st : Str), Sp Ω s b c → 0 ≤ m → m ≤ 12 → st ∈ (["any", "small", "great", "some"] : List Str) → c + 400 < 2 ^ 40 → ∃ (ns : List Str) (f : Str → Rat) (ls : List (Str × Str)) (Ω' : Sto), g [.hd s, .int m, .str st] Ω = .ok (.tup [shD ns f, .lst (ls.map pr)]) Ω' ∧ HouseOk ns f ls ∧ (ns.length : Int) ≤ m ∧ Sp Ω' s b (c + 400) ∧ Kp s b Ω Ω'
theorem house_ok {ft : FT} (h : Has ft "_law_rising" RisingS) (h1 : Has ft "_law_names" NamesS) (h2 : Has ft "_law_share" ShareS) (h3 : Has ft "_law_links" LinksS) (hd : ft.dfl "_law_rising" = []) (hd1 : ft.dfl "_law_names" = []) (hd2 : ft.dfl "_law_share" = []) (hd3 : ft.dfl "_law_links" = []) : HouseS (runD ft 3 6 C.s__law_house) := by
  intro Ω s b c m st hs hm0 hm1 hst hc
  suffices h : ∃ e Ω', runD ft 3 6 C.s__law_house [.hd s, .int m, .str st] Ω = .ok e Ω' ∧ ∃ (ns : List Str) (f : Str → Rat) (ls : List (Str × Str)), e = .tup [shD ns f, .lst (ls.map pr)] ∧ HouseOk ns f ls ∧ (ns.length : Int) ≤ m ∧ Sp Ω' s b (c + 400) ∧ Kp s b Ω Ω' by
    obtain ⟨e, Ω', e1, ns, f, ls, rfl, h⟩ := h
    exact ⟨ns, f, ls, Ω', e1, h⟩
  refine run_of rfl ?_
  show SW (exL ft C.s__law_house [some (.hd s), some (.int m), some (.str st), none, none, none] Ω) _ _
  unfold C.s__law_house
  rw [SW_cons]
  simp_arith only [hd, hd1]
  refine call_of h1 fun g hg => ?_
  obtain ⟨n0, Ω1, e, hl0, hn0, s1, k1⟩ := hg Ω s b c m hs hm0 hm1 (by omega)
  refine ⟨_, _, e, ?_⟩
  simp_arith only [hd, hd1]
  refine call_of h fun g hg => ⟨_, _, hg (.lst (n0.map .str)) n0 Ω1 rfl (by omega), ?_⟩
  try simp_arith only []
  have ha := sortS_asc n0
  have hn : ∀ n ∈ sortS n0, NameOk n := fun n hn => hn0 n (sortS_mem.mp hn)
  have hlen := sortS_len n0
  generalize sortS n0 = ns at *
  rw [SW_cons]
  simp_arith only [iterD, seqD, hd2]
  refine lc_of (fun i acc Ω' => ∃ rs : List Rat, rs.length = i ∧ acc = List.zipWith (fun n r => D.tup [.str n, frac r]) ns rs ∧ (∀ r ∈ rs, ShareOk r) ∧ Sp Ω' s b (c + 10 * m + 2 * i) ∧ Kp s b Ω Ω') (by rw [List.length_map]; unfold big; omega) ⟨[], rfl, by simp, by simp, s1.le (by omega), k1⟩ (fun i x acc Ω2 hx hi => ?_) (fun acc Ω2 hi => ?_)
  · obtain ⟨rs, hrl, rfl, hr, s2, k2⟩ := hi
    rw [List.getElem?_map] at hx
    cases e1 : ns[i]? with
    | none => rw [e1] at hx; cases hx
    | some n =>
      rw [e1] at hx
      cases hx
      have hi : i < ns.length := (List.getElem?_eq_some_iff.mp e1).1
      simp_arith only []
      refine call_of h2 fun g hg => ?_
      obtain ⟨r, Ω3, e2, hr2, s3, k3⟩ := hg Ω2 s b (c + 10 * m + 2 * i) st s2 (by omega) hst
      refine ⟨_, _, e2, ?_⟩
      try simp_arith only []
      refine ⟨rs ++ [r], by simp [hrl], ?_, fun x hx => ?_, s3.le (by omega), k2.trans k3⟩
      · have en : ns = ns.take i ++ n :: ns.drop (i + 1) := by
          rw [← (List.getElem?_eq_some_iff.mp e1).2]
          conv => lhs; rw [← List.take_append_drop i ns]
          rw [List.drop_eq_getElem_cons hi]
        have l1 : (ns.take i).length = rs.length := by rw [List.length_take]; omega
        have z1 : List.zipWith (fun n r => D.tup [.str n, frac r]) ns rs = List.zipWith (fun n r => D.tup [.str n, frac r]) (ns.take i) rs := by
          conv => lhs; rw [en, ← List.append_nil rs]
          rw [List.zipWith_append l1]
          simp
        rw [z1]
        conv => rhs; rw [en]
        rw [List.zipWith_append l1]
        simp
      · rcases List.mem_append.mp hx with h | h
        · exact hr x h
        · have : x = r := by simpa using h
          rw [this]; exact hr2
  · obtain ⟨rs, hrl, rfl, hr, s2, k2⟩ := hi
    rw [List.length_map] at hrl s2
    obtain ⟨f, hf⟩ := fun_of (asc_nd ha) hrl
    have ez : List.zipWith (fun n r => D.tup [.str n, frac r]) ns rs = ns.map fun n => D.tup [.str n, frac (f n)] := by
      rw [← hf, List.zipWith_map_right]
      exact List.zipWith_self
    rw [ez]
    have ed := dict_new (fun n : Str => n) (fun n => frac (f n)) ns (by simpa using asc_nd ha)
    simp_arith only [ed]
    rw [SW_cons]
    simp_arith only [hd3]
    refine call_of h3 fun g hg => ?_
    obtain ⟨ls, Ω4, e4, hlk, hac, hll, s4, k4⟩ := hg Ω2 s b (c + 10 * m + 2 * ns.length) ns s2 ha hn (by omega) (by omega)
    refine ⟨_, _, e4, ?_⟩
    try simp_arith only []
    refine ⟨ns, f, ls, rfl, ⟨ha, hn, by omega, fun n hn' => hr _ ?_, hlk, hll, hac⟩, by omega, s4.le (by omega), k2.trans k4⟩
    rw [← hf]
    exact List.mem_map.mpr ⟨n, hn', rfl⟩
end Rf
end
section
namespace Rf
open PySem L2
/-- a run that changes nothing -/
theorem run_eq {ft : FT} {np n : Nat} {b : SL} {ds : List D} {Ω : Sto} {d : D} (hl : ds.length = np) (h : SW (exL ft b (ds.map some ++ List.replicate (n - ds.length) none) Ω) (fun _ Ω' => D.non = d ∧ Ω' = Ω) (fun e Ω' => e = d ∧ Ω' = Ω)) : runD ft np n b ds Ω = .ok d Ω := by
  obtain ⟨e, Ω', e1, rfl, rfl⟩ := run_of (P := fun e Ω' => e = d ∧ Ω' = Ω) hl h
  exact e1
section
variable (cls : List Str) (i : Int) (xs : List D) (s : Str)
theorem ii : isTys cls (.int i) [.int] = some true := rfl
theorem ib : isTys cls (.int i) [.bool] = some false := rfl
theorem li : isTys cls (.lst xs) [.int] = some false := rfl
theorem ti : isTys cls (.tup xs) [.int] = some false := rfl
theorem il : isTys cls (.int i) [.list, .tuple] = some false := rfl
theorem ll : isTys cls (.lst xs) [.list, .tuple] = some true := rfl
theorem tl : isTys cls (.tup xs) [.list, .tuple] = some true := rfl
theorem ss_ : isTys cls (.str s) [.str] = some true := rfl
theorem si : isTys cls (.str s) [.int] = some false := rfl
end
def IsIntS (g : List D → Sto → R D) : Prop := (∀ i Ω, g [.int i] Ω = .ok (.bl true) Ω) ∧ (∀ xs Ω, g [.lst xs] Ω = .ok (.bl false) Ω) ∧ (∀ xs Ω, g [.tup xs] Ω = .ok (.bl false) Ω)
theorem isint_ok {ft : FT} : IsIntS (runD ft 1 1 C.s_is_integer) := by
  refine ⟨fun i Ω => run_eq rfl ?_, fun xs Ω => run_eq rfl ?_, fun xs Ω => run_eq rfl ?_⟩
  · show SW (exL ft C.s_is_integer [some (.int i)] Ω) _ _
    unfold C.s_is_integer
    rw [SW_cons]
    simp_arith only [ii, ib]
    exact ⟨trivial, trivial⟩
  · show SW (exL ft C.s_is_integer [some (.lst xs)] Ω) _ _
    unfold C.s_is_integer
    rw [SW_cons]
    simp_arith only [li]
    exact ⟨trivial, trivial⟩
  · show SW (exL ft C.s_is_integer [some (.tup xs)] Ω) _ _
    unfold C.s_is_integer
    rw [SW_cons]
    simp_arith only [ti]
    exact ⟨trivial, trivial⟩
def IsListS (g : List D → Sto → R D) : Prop := (∀ i Ω, g [.int i] Ω = .ok (.bl false) Ω) ∧ (∀ xs Ω, g [.lst xs] Ω = .ok (.bl true) Ω) ∧ (∀ xs Ω, g [.tup xs] Ω = .ok (.bl true) Ω)
theorem islist_ok {ft : FT} : IsListS (runD ft 1 1 C.s_is_list) := by
  refine ⟨fun i Ω => run_eq rfl ?_, fun xs Ω => run_eq rfl ?_, fun xs Ω => run_eq rfl ?_⟩
  · show SW (exL ft C.s_is_list [some (.int i)] Ω) _ _
    unfold C.s_is_list
    rw [SW_cons]
    simp_arith only [il]
    exact ⟨trivial, trivial⟩
  · show SW (exL ft C.s_is_list [some (.lst xs)] Ω) _ _
    unfold C.s_is_list
    rw [SW_cons]
    simp_arith only [ll]
    exact ⟨trivial, trivial⟩
  · show SW (exL ft C.s_is_list [some (.tup xs)] Ω) _ _
    unfold C.s_is_list
    rw [SW_cons]
    simp_arith only [tl]
    exact ⟨trivial, trivial⟩
def InnD (s : Str) (d : D) (b : Bool) : Prop := inD (.str s) d = some b
def AmongS (g : List D → Sto → R D) : Prop := ∀ s d b Ω, (∀ k, d ≠ .hd k) → inD (.str s) d = some b → g [.str s, d] Ω = .ok (.bl b) Ω
theorem lk_self {d : D} (h : ∀ k, d ≠ .hd k) (Ω : Sto) : lk Ω d = d := by cases d <;> first | rfl | exact absurd rfl (h _)
theorem among_ok {ft : FT} : AmongS (runD ft 2 2 C.s_is_among) := by
  intro s d b Ω hd h
  refine run_eq rfl ?_
  show SW (exL ft C.s_is_among [some (.str s), some d] Ω) _ _
  unfold C.s_is_among
  rw [SW_cons]
  simp_arith only [ss_, lk_self hd, h]
  exact ⟨trivial, trivial⟩
/-! ### fractions out of things -/
def FracOfS (g : List D → Sto → R D) : Prop := ∀ d r Ω, HandedOk d r → sz r 100 → g [d] Ω = .ok (frac r) Ω
theorem divInt_self (r : Rat) (m : Int) (hm : 0 < m) : Rat.divInt (m * r.num) (m * (r.den : Int)) = r := by
  conv => rhs; rw [← Rat.num_divInt_den r]
  exact Rat.divInt_mul_left (by omega)
structure PairD (d : D) (a b : Int) : Prop where
  lk : ∀ Ω, lk Ω d = d
  len : biD .len [d] = some (.int 2)
  it : iterD d = some [.int a, .int b]
  i0 : idxD d (.int 0) = some (.int a)
  i1 : idxD d (.int 1) = some (.int b)
  ni : ∀ g, IsIntS g → ∀ Ω, g [d] Ω = .ok (.bl false) Ω
  isl : ∀ g, IsListS g → ∀ Ω, g [d] Ω = .ok (.bl true) Ω
theorem pairD_t (a b : Int) : PairD (.tup [.int a, .int b]) a b := ⟨fun _ => rfl, rfl, rfl, by rw [idxD_tup, atI0], by rw [idxD_tup, atI1], fun g h Ω => h.2.2 _ _, fun g h Ω => h.2.2 _ _⟩
theorem pairD_l (a b : Int) : PairD (.lst [.int a, .int b]) a b := ⟨fun _ => rfl, rfl, rfl, by rw [idxD_lst, atI0], by rw [idxD_lst, atI1], fun g h Ω => h.2.1 _ _, fun g h Ω => h.2.1 _ _⟩
theorem fracof_ok {ft : FT} (h : Has ft "is_integer" IsIntS) (h1 : Has ft "is_list" IsListS) (h2 : Has ft "lowest" LowS) (hd : ft.dfl "is_integer" = []) (hd1 : ft.dfl "is_list" = []) (hd2 : ft.dfl "lowest" = []) : FracOfS (runD ft 1 2 C.s_fraction_of) := by
  intro d r Ω hh hr
  refine run_eq rfl ?_
  show SW (exL ft C.s_fraction_of [some d, none] Ω) _ _
  have up : ∀ z : Int, z.natAbs < 2 ^ 110 → z.natAbs < 2 ^ 400000 := fun z hz => Nat.lt_of_lt_of_le hz (Nat.pow_le_pow_right (by decide) (by decide))
  have up2 : ∀ z : Int, z.natAbs < 2 ^ 110 → z.natAbs < 2 ^ 8999 := fun z hz => Nat.lt_of_lt_of_le hz (Nat.pow_le_pow_right (by decide) (by decide))
  have dp := r.den_pos
  have pair : ∀ (a b : Int), PairD d a b → 0 < b → a.natAbs < 2 ^ 110 → b.natAbs < 2 ^ 110 → Rat.divInt a b = r → SW (exL ft C.s_fraction_of [some d, none] Ω) (fun _ Ω' => D.non = frac r ∧ Ω' = Ω) (fun e Ω' => e = frac r ∧ Ω' = Ω) := by
    intro a b P hb ha hb2 er
    unfold C.s_fraction_of
    rw [SW_cons]
    simp_arith only [hd]
    refine call_of h fun g hg => ⟨_, _, P.ni g hg Ω, ?_⟩
    simp_arith only []
    rw [SW_nil, SW_cons]
    simp_arith only [hd1]
    refine call_of h1 fun g hg => ⟨_, _, P.isl g hg Ω, ?_⟩
    simp_arith only [hd1]
    have e22 : ((2 : Int) == 2) = true := rfl
    simp_arith only [P.lk, P.len, e22, P.it, hd]
    refine lc_pure (fun _ => some (.bl true)) (by unfold big; simp) (fun y hy => ?_) ?_
    · have : y = .int a ∨ y = .int b := by simpa using hy
      simp_arith only []
      rcases this with rfl | rfl
      · refine call_of h fun g hg => ⟨_, _, hg.1 _ _, ?_⟩
        simp_arith only []
        exact ⟨trivial, trivial⟩
      · refine call_of h fun g hg => ⟨_, _, hg.1 _ _, ?_⟩
        simp_arith only []
        exact ⟨trivial, trivial⟩
    · have ea : biD .all [.lst ([D.int a, D.int b].filterMap fun _ => some (D.bl true))] = some (.bl true) := rfl
      simp_arith only [ea]
      rw [SW_nil, SW_cons]
      simp_arith only [P.lk, P.i0, P.i1, hb, decide_true, hd2]
      refine call_of h2 fun g hg => ⟨_, _, hg a b Ω hb (up _ ha) (up2 _ hb2), ?_⟩
      simp_arith only [P.lk, P.i0, P.i1, hb, decide_true, hd2]
      exact ⟨by rw [er], trivial⟩
  have hd100 : ((r.den : Int)).natAbs < 2 ^ 100 := by simpa using hr.2
  rcases hh with ⟨m, m1, m4, rfl⟩ | rfl | ⟨rfl, hden⟩
  · refine pair (m * r.num) (m * (r.den : Int)) (pairD_t _ _) (Int.mul_pos (by omega) (by omega)) ?_ ?_ (divInt_self r m (by omega))
    · rw [Int.natAbs_mul]; exact nat_mul_lt (k := 10) (l := 100) (by omega) hr.1
    · rw [Int.natAbs_mul]; exact nat_mul_lt (k := 10) (l := 100) (by omega) hd100
  · exact pair r.num (r.den : Int) (pairD_l _ _) (by omega) (by have := hr.1; omega) (by omega) (Rat.num_divInt_den r)
  · unfold C.s_fraction_of
    rw [SW_cons]
    simp_arith only [hd]
    refine call_of h fun g hg => ⟨_, _, hg.1 _ _, ?_⟩
    simp_arith only []
    rw [SW_cons]
    simp_arith only []
    refine ⟨?_, trivial⟩
    unfold frac
    rw [hden]; rfl
end Rf
end
section
namespace Rf
open PySem L2
theorem sizeof_ok {ft : FT} (h : Has ft "fraction_of" FracOfS) (hd : ft.dfl "fraction_of" = []) : ∀ d r Ω, HandedOk d r → sz r 100 → 0 ≤ r.num → runD ft 1 2 C.s_size_of [d] Ω = .ok (frac r) Ω := by
  intro d r Ω hh hr h0
  refine run_eq rfl ?_
  show SW (exL ft C.s_size_of [some d, none] Ω) _ _
  unfold C.s_size_of
  rw [SW_cons]
  simp_arith only [hd]
  refine call_of h fun g hg => ⟨_, _, hg d r Ω hh hr, ?_⟩
  try simp_arith only []
  rw [SW_cons]
  have n0 : decide (r.num < 0) = false := decide_eq_false (by omega)
  unfold frac
  simp_arith only [n0]
  exact ⟨trivial, trivial⟩
def SizeOfS (g : List D → Sto → R D) : Prop := ∀ d r Ω, HandedOk d r → sz r 100 → 0 ≤ r.num → g [d] Ω = .ok (frac r) Ω
def ShareOfS (g : List D → Sto → R D) : Prop := ∀ d r Ω, HandedOk d r → sz r 100 → 0 ≤ r.num → r.num ≤ r.den → g [d] Ω = .ok (frac r) Ω
theorem shareof_ok {ft : FT} (h : Has ft "size_of" SizeOfS) (hd : ft.dfl "size_of" = []) : ShareOfS (runD ft 1 2 C.s_share_of) := by
  intro d r Ω hh hr h0 h1
  refine run_eq rfl ?_
  show SW (exL ft C.s_share_of [some d, none] Ω) _ _
  unfold C.s_share_of
  rw [SW_cons]
  simp_arith only [hd]
  refine call_of h fun g hg => ⟨_, _, hg d r Ω hh hr h0, ?_⟩
  try simp_arith only []
  rw [SW_cons]
  have n0 : decide ((r.den : Int) < r.num) = false := decide_eq_false (by omega)
  unfold frac
  simp_arith only [n0]
  exact ⟨trivial, trivial⟩
/-! ### names -/
def IsNameS (g : List D → Sto → R D) : Prop := ∀ s Ω, NameOk s → g [.str s] Ω = .ok (.bl true) Ω
theorem in_abc : ∀ c ∈ abc, inD (.str ⟨#[c]⟩) (.str "abcdefghijklmnopqrstuvwxyz") = some true := by decide +kernel
theorem in_alnum : ∀ c ∈ alnum, inD (.str ⟨#[c]⟩) (.str ((Str.ofString "abcdefghijklmnopqrstuvwxyz") ++ (Str.ofString "0123456789"))) = some true := by decide +kernel
theorem abc_alnum : ∀ c ∈ abc, c ∈ alnum := by decide +kernel
theorem all_true : ∀ n : Nat, boolsD (List.replicate n (.bl true)) = some (List.replicate n true)
  | 0 => rfl
  | n + 1 => by rw [List.replicate_succ]; show (boolsD _).map _ = _; rw [all_true n]; rfl
theorem isname_ok {ft : FT} (h1 : ft.con "SIGNS" = some (.str "abcdefghijklmnopqrstuvwxyz")) (h2 : ft.con "FIGURES" = some (.str "0123456789")) : IsNameS (runD ft 1 2 C.s_is_name) := by
  intro s Ω hs
  refine run_eq rfl ?_
  show SW (exL ft C.s_is_name [some (.str s), none] Ω) _ _
  unfold C.s_is_name
  obtain ⟨a, t, e, ha, ht, hl⟩ := hs
  have sl : s.length = t.length + 1 := by
    unfold Str.length
    rw [← Array.length_toList, e]
    rfl
  have lb : s.length ≤ big := by unfold big; omega
  have e1 : decide ((1 : Int) ≤ (s.length : Int)) = true := decide_eq_true (by omega)
  have e2 : decide ((s.length : Int) ≤ 8) = true := decide_eq_true (by omega)
  have e3 : idxD (.str s) (.int 0) = some (.str ⟨#[a]⟩) := by rw [idxD_str, if_pos lb, e, atI0]; rfl
  rw [SW_cons]
  simp_arith only [ss_, lens, lb, e1, e2, e3, h1, in_abc a ha]
  rw [SW_nil, SW_cons]
  have hit : iterD (.str s) = some ((a :: t).map fun c => .str ⟨#[c]⟩) := by show some (s.cps.toList.map _) = _; rw [e]
  simp_arith only [hit]
  have l36 : (Str.ofString "abcdefghijklmnopqrstuvwxyz").length + (Str.ofString "0123456789").length ≤ big := by decide +kernel
  refine lc_pure (fun _ => some (.bl true)) (by rw [List.length_cons, List.length_map]; unfold big; omega) (fun y hy => ?_) ?_
  · have hy : y ∈ (a :: t).map fun c => D.str ⟨#[c]⟩ := hy
    obtain ⟨c, hc, rfl⟩ := List.mem_map.mp hy
    have hc' : c ∈ alnum := by
      rcases List.mem_cons.mp hc with rfl | h
      · exact abc_alnum _ ha
      · exact ht c h
    simp_arith only [h1, h2, adds, l36, in_alnum c hc']
    exact ⟨trivial, trivial⟩
  · have ef : ∀ xs : List D, xs.filterMap (fun _ => some (D.bl true)) = List.replicate xs.length (.bl true) := fun xs => by induction xs with
      | nil => rfl
      | cons x xs ih => simp only [List.filterMap_cons, ih, List.length_cons, List.replicate_succ]
    rw [ef]
    have ea : ∀ n, biD .all [.lst (List.replicate n (.bl true))] = some (.bl true) := fun n => by
      show (boolsD _).map _ = _
      rw [all_true]
      show some (D.bl ((List.replicate n true).all id)) = _
      rw [List.all_replicate]
      simp
    simp_arith only [ea]
    exact ⟨trivial, trivial⟩
/-! ### faults that are there -/
def CheckedS (g : List D → Sto → R D) : Prop := ∀ s d Ω, (∀ k, d ≠ .hd k) → inD (.str s) d = some true → g [.str s, d] Ω = .ok (.str s) Ω
theorem checked_ok {ft : FT} (h : Has ft "is_among" AmongS) (hd : ft.dfl "is_among" = []) : CheckedS (runD ft 2 2 C.s_checked_fault) := by
  intro s d Ω hn hi
  refine run_eq rfl ?_
  show SW (exL ft C.s_checked_fault [some (.str s), some d] Ω) _ _
  unfold C.s_checked_fault
  rw [SW_cons]
  simp_arith only [hd]
  refine call_of h fun g hg => ⟨_, _, hg s d true Ω hn hi, ?_⟩
  simp_arith only []
  rw [SW_nil, SW_cons]
  simp_arith only []
  exact ⟨trivial, trivial⟩
def ChNamesS (g : List D → Sto → R D) : Prop := ∀ (x : D) (ss : List Str) d Ω, iterD x = some (ss.map .str) → ss.length < 64 → (∀ k, d ≠ .hd k) → (∀ s ∈ ss, inD (.str s) d = some true) → g [x, d] Ω = .ok (.lst ((sortS ss).map .str)) Ω
theorem chnames_ok {ft : FT} (h : Has ft "checked_fault" CheckedS) (h1 : Has ft "rising" RisingS) (hd : ft.dfl "checked_fault" = []) (hd1 : ft.dfl "rising" = []) : ChNamesS (runD ft 2 3 C.s_checked_names) := by
  intro x ss d Ω hx hl hn hi
  refine run_eq rfl ?_
  show SW (exL ft C.s_checked_names [some x, some d, none] Ω) _ _
  unfold C.s_checked_names
  rw [SW_cons]
  simp_arith only [hx]
  refine for_of (fun i ρ Ω' => Ω' = Ω ∧ ∃ z, ρ = [some x, some d, z]) ⟨rfl, none, rfl⟩ (fun i y ρ Ω1 hy hi' => ?_) (fun ρ Ω1 hi' => ?_)
  · obtain ⟨rfl, z, rfl⟩ := hi'
    rw [List.getElem?_map] at hy
    cases e : ss[i]? with
    | none => rw [e] at hy; cases hy
    | some s =>
      rw [e] at hy
      cases hy
      rw [SW_cons]
      simp_arith only [hd]
      refine call_of h fun g hg => ⟨_, _, hg s d Ω1 hn (hi s (List.mem_of_getElem? e)), ?_⟩
      try simp_arith only []
      rw [SW_nil]
      exact ⟨rfl, _, rfl⟩
  · obtain ⟨rfl, z, rfl⟩ := hi'
    rw [SW_cons]
    simp_arith only [hd1]
    exact call_of h1 fun g hg => ⟨_, _, hg x ss Ω1 hx hl, rfl, rfl⟩
end Rf
end
section
namespace Rf
open PySem L2
/-- the store only grows -/
structure Gr (Ω Ω' : Sto) : Prop where
  len : Ω.length ≤ Ω'.length
  at_ : ∀ i, i < Ω.length → Ω'[i]? = Ω[i]?
theorem Gr.refl {Ω : Sto} : Gr Ω Ω := ⟨Nat.le_refl _, fun _ _ => rfl⟩
theorem Gr.trans {Ω Ω' Ω'' : Sto} (h : Gr Ω Ω') (h' : Gr Ω' Ω'') : Gr Ω Ω'' := ⟨Nat.le_trans h.len h'.len, fun i hi => (h'.at_ i (Nat.lt_of_lt_of_le hi h.len)).trans (h.at_ i hi)⟩
theorem Gr.kp {Ω Ω' : Sto} (h : Gr Ω Ω') (s b : Nat) : Kp s b Ω Ω' := ⟨h.len, fun i hi _ _ => h.at_ i hi⟩
theorem Gr.sp {Ω Ω' : Sto} {s b : Nat} {c : Int} (h : Gr Ω Ω') (hs : Sp Ω s b c) : Sp Ω' s b c := hs.at_ (h.at_ _ hs.lt.1) (h.at_ _ hs.lt.2) (Int.le_refl _)
theorem eqD_str {x y : Str} (hx : NameOk x) (hy : NameOk y) : eqD (.str x) (.str y) = some (decide (x = y)) := by
  obtain ⟨p, e1, e2, e3⟩ := GD_str hx
  obtain ⟨q, f1, f2, f3⟩ := GD_str hy
  unfold eqD
  cases e1
  cases f1
  have s1 : SeqAt.shaped (.str x) = true := by unfold SeqAt.shaped; rw [Bool.and_eq_true]; exact ⟨e2, decide_eq_true (by omega)⟩
  have s2 : SeqAt.shaped (.str y) = true := by unfold SeqAt.shaped; rw [Bool.and_eq_true]; exact ⟨f2, decide_eq_true (by omega)⟩
  show (if SeqAt.shaped (.str x) = true ∧ SeqAt.shaped (.str y) = true then some (PyData.eqv (.str x) (.str y)) else none) = _
  rw [if_pos ⟨s1, s2⟩]
  simp only [PyData.eqv]
  by_cases h : x = y <;> simp [h]
/-- how a link is told -/
def Told (d : D) (p : Str × Str) : Prop := ∃ x y, (d = .lst [.str x, .str y] ∨ d = .tup [.str x, .str y]) ∧ ((x = p.1 ∧ y = p.2) ∨ (x = p.2 ∧ y = p.1))
def ChLinksS (g : List D → Sto → R D) : Prop := ∀ (x : D) (ds : List D) (ps : List (Str × Str)) (d : D) Ω, (x = .lst ds ∨ x = .tup ds) → ds.length = ps.length → (∀ (i : Nat) (a : D) (p : Str × Str), ds[i]? = some a → ps[i]? = some p → Told a p) → ps.length < 64 → (∀ k, d ≠ .hd k) →
  (∀ p ∈ ps, NameOk p.1 ∧ NameOk p.2 ∧ ltS p.1 p.2 ∧ inD (.str p.1) d = some true ∧ inD (.str p.2) d = some true) → ∃ (ts : List (Str × Str)) (Ω' : Sto), g [x, d] Ω = .ok (.lst (ts.map pr)) Ω' ∧ (∀ p, p ∈ ts ↔ p ∈ ps) ∧ ts.length ≤ ps.length ∧ AscP ts ∧ Gr Ω Ω'
theorem sset_pr {ps : List (Str × Str)} (hl : ps.length < 64) : ∃ ts : List (Str × Str), ssetD (.lst (ps.map pr)) = some (.lst (ts.map pr)) ∧ (∀ p, p ∈ ts ↔ p ∈ ps) ∧ ts.length ≤ ps.length ∧ AscP ts := by
  cases ps with
  | nil => exact ⟨[], by simp [ssetD, strsD, once], by simp, by simp, .nil⟩
  | cons p ps =>
    have e1 : strsD ((p :: ps).map pr) = none := rfl
    have al : ((p :: ps).map fun p => [p.1, p.2]).all (fun t => !t.isEmpty) = true := by rw [List.all_map]; exact List.all_eq_true.mpr fun _ _ => rfl
    have inj : ∀ a b : Str × Str, [a.1, a.2] = [b.1, b.2] → a = b := fun a b h => by
      simp only [List.cons.injEq, and_true] at h
      exact Prod.ext h.1 h.2
    have om : ∀ qs : List (Str × Str), once (qs.map fun p => [p.1, p.2]) = (once qs).map fun p => [p.1, p.2] := fun qs => by
      induction qs with
      | nil => rfl
      | cons q qs ih =>
        rw [List.map_cons, once, once, ih]
        have : ([q.1, q.2] ∈ (once qs).map fun p => [p.1, p.2]) ↔ q ∈ once qs := by
          constructor
          · intro h
            obtain ⟨z, hz, e⟩ := List.mem_map.mp h
            rw [← inj z q e]; exact hz
          · intro h; exact List.mem_map.mpr ⟨q, h, rfl⟩
        by_cases hq : q ∈ once qs
        · rw [if_pos (this.mpr hq), if_pos hq]
        · rw [if_neg (fun h => hq (this.mp h)), if_neg hq]; rfl
    have pm := List.mergeSort_perm ((once (p :: ps)).map fun p => [p.1, p.2]) leSs
    obtain ⟨zs, ez, hz⟩ := perm_map_inv pm
    refine ⟨zs, ?_, fun q => by rw [hz.mem_iff, once_mem], by rw [hz.length_eq]; exact once_len _, ascP_of (by rw [← ez]; exact List.pairwise_mergeSort leSs_trans leSs_total _) (hz.nodup_iff.mpr (once_nodup _))⟩
    have e0 : intsD ((p :: ps).map pr) = none := rfl
    show (match strsD ((p :: ps).map pr) with | some ss => if ss.length < 64 then some (D.lst (((once ss).mergeSort leS).map .str)) else none | none => match intsD ((p :: ps).map pr) with | some ns => if ns.length < 4000 ∧ (once ns).length < 64 then some (.lst (((once ns).mergeSort leI).map .int)) else none | none => match tupsD ((p :: ps).map pr) with | some ts => if ts.length < 64 ∧ ts.all (fun t => !t.isEmpty) = true then some (D.lst (((once ts).mergeSort leSs).map fun (t : List Str) => D.tup (t.map .str))) else none | none => none) = _
    rw [e1, e0, tupsD_pr]
    simp only [al, and_true]
    rw [if_pos (by rw [List.length_map]; exact hl), om, ez, List.map_map]
    rfl
theorem sort2p {p : Str × Str} (h : ltS p.1 p.2) {x y : Str} (hxy : (x = p.1 ∧ y = p.2) ∨ (x = p.2 ∧ y = p.1)) : sortS [x, y] = [p.1, p.2] := by
  refine asc_ext (sortS_asc _) (by unfold Asc; simp [h]) fun z => ?_
  rw [sortS_mem]
  rcases hxy with ⟨rfl, rfl⟩ | ⟨rfl, rfl⟩
  · exact Iff.rfl
  · simp [or_comm]
theorem chlinks_ok {ft : FT} (h : Has ft "is_list" IsListS) (h1 : Has ft "is_among" AmongS) (h2 : Has ft "rising" RisingS) (hd : ft.dfl "is_list" = []) (hd1 : ft.dfl "is_among" = []) (hd2 : ft.dfl "rising" = []) : ChLinksS (runD ft 2 6 C.s_checked_links) := by
  intro x ds ps d Ω hx hl ht hl2 hn hp
  suffices h : ∃ e Ω', runD ft 2 6 C.s_checked_links [x, d] Ω = .ok e Ω' ∧ ∃ (ts : List (Str × Str)), e = .lst (ts.map pr) ∧ (∀ p, p ∈ ts ↔ p ∈ ps) ∧ ts.length ≤ ps.length ∧ AscP ts ∧ Gr Ω Ω' by
    obtain ⟨e, Ω', e1, ts, rfl, h⟩ := h
    exact ⟨ts, Ω', e1, h⟩
  refine run_of rfl ?_
  show SW (exL ft C.s_checked_links [some x, some d, none, none, none, none] Ω) _ _
  unfold C.s_checked_links
  have isl : ∀ g, IsListS g → ∀ Ω, g [x] Ω = .ok (.bl true) Ω := fun g hg Ω => by
    rcases hx with rfl | rfl
    · exact hg.2.1 _ _
    · exact hg.2.2 _ _
  have sq : seqD x = some ds := by rcases hx with rfl | rfl <;> rfl
  rw [SW_cons]
  simp_arith only [hd]
  refine call_of h fun g hg => ⟨_, _, isl g hg Ω, ?_⟩
  simp_arith only []
  rw [SW_nil, SW_cons]
  simp_arith only []
  generalize hL : Ω.length = L at *
  rw [SW_cons]
  simp_arith only [sq]
  have enl : (enD ds).length = ds.length := by unfold enD; rw [List.length_map, List.length_zipIdx]
  refine for_of (fun i ρ Ω' => ∃ z1 z2, ρ = [some x, some d, some (.hd L), z1, z2, none] ∧ Ω'[L]? = some (.lst ((ps.take i).map pr)) ∧ Gr Ω Ω') ⟨none, none, rfl, by rw [List.getElem?_append_right (by omega), hL, Nat.sub_self]; rfl, ⟨by rw [List.length_append]; omega, fun i hi => List.getElem?_append_left hi⟩⟩ (fun i y ρ Ω1 hy hi => ?_) (fun ρ Ω1 hi => ?_)
  · obtain ⟨z1, z2, rfl, hf, k1⟩ := hi
    unfold enD at hy
    rw [List.getElem?_map, List.getElem?_zipIdx] at hy
    cases e : ds[i]? with
    | none => rw [e] at hy; cases hy
    | some a =>
      rw [e] at hy
      have hy : D.tup [.int ((0 + i : Nat) : Int), a] = y := Option.some.inj hy
      subst hy
      have hi : i < ds.length := (List.getElem?_eq_some_iff.mp e).1
      have ep : ps[i]? = some ps[i] := List.getElem?_eq_getElem (by omega)
      generalize ps[i] = p at ep
      obtain ⟨u, v, hor, huv⟩ := ht i a p e ep
      obtain ⟨n1, n2, n3, n4, n5⟩ := hp p (List.mem_of_getElem? ep)
      have nu : NameOk u ∧ NameOk v ∧ inD (.str u) d = some true ∧ inD (.str v) d = some true ∧ u ≠ v := by
        rcases huv with ⟨rfl, rfl⟩ | ⟨rfl, rfl⟩
        · exact ⟨n1, n2, n4, n5, ltS_ne n3⟩
        · exact ⟨n2, n1, n5, n4, (ltS_ne n3).symm⟩
      obtain ⟨u1, u2, u3, u4, u5⟩ := nu
      have lka : ∀ Ω, lk Ω a = a := fun Ω => by rcases hor with rfl | rfl <;> rfl
      have isa : ∀ g, IsListS g → ∀ Ω, g [a] Ω = .ok (.bl true) Ω := fun g hg Ω => by
        rcases hor with rfl | rfl
        · exact hg.2.1 _ _
        · exact hg.2.2 _ _
      have la : biD .len [a] = some (.int 2) := by rcases hor with rfl | rfl <;> rfl
      have ia : iterD a = some ([u, v].map .str) := by rcases hor with rfl | rfl <;> rfl
      have i0 : idxD a (.int 0) = some (.str u) := by rcases hor with rfl | rfl <;> rfl
      have i1 : idxD a (.int 1) = some (.str v) := by rcases hor with rfl | rfl <;> rfl
      show SW (exL ft _ [some x, some d, some (.hd L), some (.int ((0 + i : Nat) : Int)), some a, none] Ω1) _ _
      rw [SW_cons]
      simp_arith only [hd]
      refine call_of h fun g hg => ⟨_, _, isa g hg Ω1, ?_⟩
      simp_arith only [hd]
      have e22 : ((2 : Int) == 2) = true := rfl
      simp_arith only [lka, la, e22, ia, hd1]
      refine lc_pure (fun _ => some (.bl true)) (by unfold big; simp) (fun w hw => ?_) ?_
      · have : w = .str u ∨ w = .str v := by simpa using hw
        simp_arith only []
        rcases this with rfl | rfl
        · exact call_of h1 fun g hg => ⟨_, _, hg u d true _ hn u3, rfl, rfl⟩
        · exact call_of h1 fun g hg => ⟨_, _, hg v d true _ hn u4, rfl, rfl⟩
      · have ea : biD .all [.lst ([D.str u, D.str v].filterMap fun _ => some (D.bl true))] = some (.bl true) := rfl
        have de : decide (u = v) = false := decide_eq_false u5
        simp_arith only [ea]
        rw [SW_nil, SW_cons]
        simp_arith only [lka, i0, i1, eqD_str u1 u2, de]
        rw [SW_nil, SW_cons]
        simp_arith only [lk_hl Ω1 hf, hd2]
        refine call_of h2 fun g hg => ⟨_, _, hg a [u, v] Ω1 ia (by simp), ?_⟩
        simp_arith only [lk_hl Ω1 hf, hd2]
        have tk : (List.take i ps).length ≤ i := by rw [List.length_take]; omega
        simp_arith only [hf, List.length_map, sort2p n3 huv]
        rw [if_pos (by unfold big; omega)]
        simp_arith only []
        rw [SW_nil]
        refine ⟨_, _, rfl, ?_, ⟨by rw [List.length_set]; exact k1.len, fun j hj => ?_⟩⟩
        · rw [set_get hf, List.take_add_one, ep, List.map_append]; rfl
        · rw [List.getElem?_set_ne (by omega)]; exact k1.at_ j (by omega)
  · obtain ⟨z1, z2, rfl, hf, k1⟩ := hi
    rw [enl, hl, List.take_length] at hf
    rw [SW_cons]
    obtain ⟨ts, e1, e2, e3, e4⟩ := sset_pr hl2
    simp_arith only [lk_hl Ω1 hf, e1]
    exact ⟨ts, rfl, e2, e3, e4, k1⟩
end Rf
end
section
namespace Rf
open PySem L2
theorem lc_pureA {Ω : Sto} {turn : D → Sto → R (Option D)} {Q : List D → Sto → Prop} {xs acc : List D} (h : D → Option D) (hb : acc.length + xs.length ≤ big) (e : ∀ x, x ∈ xs → RW (turn x Ω) fun o Ω' => o = h x ∧ Ω' = Ω) (fin : Q (acc ++ xs.filterMap h) Ω) : RW (lcD turn xs acc Ω) Q := by
  refine lc_go (fun i a Ω' => Ω' = Ω ∧ a = acc ++ (xs.take i).filterMap h) xs 0 acc Ω hb (fun i x a Ω' hx hi => ?_) (fun a Ω' hi => ?_) ⟨rfl, by simp⟩
  · obtain ⟨rfl, rfl⟩ := hi
    refine (e x (List.mem_of_getElem? hx)).mono fun o Ω2 ho => ?_
    obtain ⟨rfl, rfl⟩ := ho
    refine ⟨rfl, ?_⟩
    rw [show 0 + i + 1 = i + 1 by omega, show 0 + i = i by omega, List.take_add_one, hx, List.filterMap_append, List.append_assoc]
    cases e2 : h x with
    | none => simp [e2]
    | some d => simp [e2]
  · obtain ⟨rfl, rfl⟩ := hi
    rw [show 0 + xs.length = xs.length by omega, List.take_length]
    exact fin
theorem lc2_pure {Ω : Sto} {turn : D → List D → Sto → R (List D)} {Q : List D → Sto → Prop} (h : D → List D) : ∀ {xs acc : List D}, (∀ x acc, x ∈ xs → acc.length ≤ 1000 → RW (turn x acc Ω) fun a Ω' => a = acc ++ h x ∧ Ω' = Ω) → (acc ++ xs.flatMap h).length ≤ 1000 → Q (acc ++ xs.flatMap h) Ω → RW (lc2D turn xs acc Ω) Q
  | [], acc, _, _, fin => by show Q acc Ω; simpa using fin
  | x :: xs, acc, e, hl, fin => by
    rw [lc2D, RW_bind, RW_nx]
    have la : acc.length ≤ 1000 := by rw [List.length_append] at hl; omega
    refine (e x acc (List.mem_cons_self ..) la).mono fun a Ω' ha => ?_
    obtain ⟨rfl, rfl⟩ := ha
    refine lc2_pure h (fun y ac hy => e y ac (List.mem_cons_of_mem _ hy)) ?_ ?_
    · rw [List.append_assoc, ← List.flatMap_cons]; exact hl
    · rw [List.append_assoc, ← List.flatMap_cons]; exact fin
/-- the faults that are linked with a fault -/
def others (ts : List (Str × Str)) (n : Str) : List Str := ts.flatMap fun p => if n = p.1 ∨ n = p.2 then [p.1, p.2].filter fun x => !decide (x = n) else []
def nb (ts : List (Str × Str)) (n : Str) : List Str := sortS (others ts n)
def PartS (g : List D → Sto → R D) : Prop := ∀ (ts : List (Str × Str)) n Ω, (∀ p ∈ ts, NameOk p.1 ∧ NameOk p.2 ∧ ltS p.1 p.2) → NameOk n → ts.length ≤ 60 → g [.lst (ts.map pr), .str n] Ω = .ok (.lst ((nb ts n).map .str)) Ω
theorem others_len {ts : List (Str × Str)} {n : Str} (h : ∀ p ∈ ts, ltS p.1 p.2) : (others ts n).length ≤ ts.length := by
  induction ts with
  | nil => simp [others]
  | cons p ts ih =>
    have ih := ih fun q hq => h q (List.mem_cons_of_mem _ hq)
    unfold others at ih ⊢
    rw [List.flatMap_cons, List.length_append, List.length_cons]
    have : (if n = p.1 ∨ n = p.2 then [p.1, p.2].filter fun x => !decide (x = n) else []).length ≤ 1 := by
      split
      · rename_i ho
        rcases ho with rfl | rfl
        · by_cases h2 : p.2 = p.1 <;> simp [h2]
        · by_cases h2 : p.1 = p.2 <;> simp [h2]
      · simp
    omega
theorem inD_pr (n : Str) (p : Str × Str) : inD (.str n) (pr p) = some (decide (n = p.1 ∨ n = p.2)) := by
  have := inD_tup n [p.1, p.2]
  rw [show pr p = .tup ([p.1, p.2].map .str) from rfl, this]
  simp
def othD (n : Str) : D → List D
  | .tup [.str x, .str y] => (if n = x ∨ n = y then [x, y].filter fun x => !decide (x = n) else []).map D.str
  | _ => []
def neD (n : Str) (p : Str × Str) : D → Option D
  | .str x => if (n = p.1 ∨ n = p.2) ∧ x ≠ n then some (D.str x) else none
  | _ => none
theorem part_ok {ft : FT} (h : Has ft "rising" RisingS) (hd : ft.dfl "rising" = []) : PartS (runD ft 2 4 C.s_partners) := by
  intro ts n Ω ht hn hl
  refine run_eq rfl ?_
  show SW (exL ft C.s_partners [some (.lst (ts.map pr)), some (.str n), none, none] Ω) _ _
  unfold C.s_partners
  rw [SW_cons]
  simp_arith only [iterD, seqD, hd]
  have ol := others_len (n := n) fun p hp => (ht p hp).2.2
  have fl : ∀ qs : List (Str × Str), (qs.map pr).flatMap (othD n) = (others qs n).map D.str := fun qs => by
    unfold others
    induction qs with
    | nil => rfl
    | cons q qs ih => rw [List.map_cons, List.flatMap_cons, ih, List.flatMap_cons, List.map_append]; rfl
  refine lc2_pure (othD n) (fun x acc hx hac => ?_) ?_ ?_
  · obtain ⟨p, hp, rfl⟩ := List.mem_map.mp hx
    obtain ⟨p1, p2, p3⟩ := ht p hp
    simp_arith only [iterD, seqD, pr]
    refine lc_pureA (neD n p) (by unfold big; simp; omega) (fun y hy => ?_) ?_
    · have : y = .str p.1 ∨ y = .str p.2 := by simpa using hy
      have key : ∀ x : Str, NameOk x → RW ((evC ft (.some (.and (.cons (.cmp .In (.var 1) (.var 2)) (.cons (.cmp .NotEq (.var 3) (.var 1)) .nil)))) [some (.lst (ts.map pr)), some (.str n), some (pr p), some (.str x)] Ω).bind fun b Ω => if b = true then R.ok (some (D.str x)) Ω else R.ok none Ω) fun o Ω' => o = (if (n = p.1 ∨ n = p.2) ∧ x ≠ n then some (D.str x) else none) ∧ Ω' = Ω := by
        intro x hx
        have lkp : lk Ω (pr p) = pr p := rfl
        simp_arith only [lkp, inD_pr]
        by_cases h1 : n = p.1 ∨ n = p.2
        · simp_arith only [h1, decide_true, eqD_str hx hn]
          by_cases h2 : x = n
          · simp [h2, RW]
          · simp [h1, h2, RW]
        · simp_arith only [h1, decide_false]
          simp [h1, RW]
      rcases this with rfl | rfl
      · exact key p.1 p1
      · exact key p.2 p2
    · refine ⟨?_, rfl⟩
      congr 1
      by_cases h1 : n = p.1 ∨ n = p.2
      · by_cases h2 : p.1 = n <;> by_cases h3 : p.2 = n <;> simp [h1, h2, h3, neD, othD, pr]
      · simp [h1, neD, othD, pr]
  · rw [fl, List.nil_append, List.length_map]; omega
  · rw [fl, List.nil_append]
    exact call_of h fun g hg => ⟨_, _, hg (.lst ((others ts n).map .str)) (others ts n) Ω rfl (by omega), rfl, rfl⟩
/-! ### dicts out of comprehensions -/
theorem dc_pure {Ω : Sto} {turn : D → Sto → R (Option (D × D))} {Q : List (Key × D) → Sto → Prop} (k : Str → Str) (v : Str → D) : ∀ {ss : List Str} {acc : List (Key × D)}, acc.length + ss.length ≤ big → (∀ s, s ∈ ss → RW (turn (.str s) Ω) fun o Ω' => o = some (.str s, v s) ∧ Ω' = Ω) → ((acc ++ ss.map fun s => ((Sum.inr s : Key), v s)).map (fun kv => kv.1)).Nodup → Q (acc ++ ss.map fun s => ((Sum.inr s : Key), v s)) Ω → RW (dcD turn (ss.map .str) acc Ω) Q
  | [], acc, _, _, _, fin => by show Q acc Ω; simpa using fin
  | s :: ss, acc, hb, e, nd, fin => by
    rw [List.map_cons, dcD, RW_bind, RW_nx]
    refine (e s (List.mem_cons_self ..)).mono fun o Ω' ho => ?_
    obtain ⟨rfl, rfl⟩ := ho
    rw [List.length_cons] at hb
    show RW (if acc.length < big then dcD turn (ss.map .str) (putKD acc (.inr s) (v s)) Ω' else .bad) Q
    rw [if_pos (by omega), putKD_new]
    · refine dc_pure k v (by rw [List.length_append, List.length_singleton]; omega) (fun t ht => e t (List.mem_cons_of_mem _ ht)) ?_ ?_
      · simpa using nd
      · simpa using fin
    · intro hm
      rw [List.map_append, List.map_cons, List.map_cons] at nd
      exact (List.nodup_append.mp nd).2.2 _ hm _ (List.mem_cons_self ..) rfl
end Rf
end
section
namespace Rf
open PySem L2
theorem getK_map {α : Type} {ns : List Str} (v : Str → D) {n : Str} (h : n ∈ ns) : getK (ns.map fun n => ((Sum.inr n : Key), v n)) (.inr n) = some (v n) := by
  induction ns with
  | nil => cases h
  | cons m ns ih =>
    unfold getK
    rw [List.map_cons, List.find?_cons]
    by_cases e : m = n
    · subst e; simp
    · have : decide (((Sum.inr m : Key), v m).1 = Sum.inr n) = false := decide_eq_false fun z => e (Sum.inr.inj z)
      rw [this]
      have hm : n ∈ ns := by
        rcases List.mem_cons.mp h with h | h
        · exact absurd h.symm e
        · exact h
      exact ih hm
theorem idx_dk {ns : List Str} (v : Str → D) {n : Str} (h : n ∈ ns) : idxD (.dk (ns.map fun n => ((Sum.inr n : Key), v n))) (.str n) = some (v n) := getK_map (α := Unit) v h
theorem in_dk {ns : List Str} (v : Str → D) {n : Str} (h : n ∈ ns) : inD (.str n) (.dk (ns.map fun n => ((Sum.inr n : Key), v n))) = some true := by
  show some (getK _ (Sum.inr n : Key)).isSome = _
  rw [getK_map (α := Unit) v h]; rfl
theorem it_dk (ns : List Str) (v : Str → D) : iterD (.dk (ns.map fun n => ((Sum.inr n : Key), v n))) = some (ns.map .str) := by
  show some ((ns.map fun n => ((Sum.inr n : Key), v n)).map fun kv => kD kv.1) = _
  rw [List.map_map]; rfl
theorem list_dk' (ns : List Str) (v : Str → D) : listD (.dk (ns.map fun n => ((Sum.inr n : Key), v n))) = some (.lst (ns.map .str)) := by
  show some (D.lst ((ns.map fun n => ((Sum.inr n : Key), v n)).map fun kv => kD kv.1)) = _
  rw [List.map_map]; rfl
theorem nd_keys {ns : List Str} (v : Str → D) (h : ns.Nodup) : (([] ++ ns.map fun s => ((Sum.inr s : Key), v s)).map (fun (kv : Key × D) => kv.1)).Nodup := by
  rw [List.nil_append, List.map_map]
  exact List.Pairwise.map _ (fun a b h e => h (Sum.inr.inj e)) h
/-- a system as it is made -/
def sysF (ns : List Str) (f : Str → Rat) (ts : List (Str × Str)) : List (Str × D) := [(("worths" : Str), shD ns f), (("ties" : Str), D.lst (ts.map pr)), ("beside", .dk (ns.map fun n => ((Sum.inr n : Key), .lst ((nb ts n).map .str))))]
def sysD (ns : List Str) (f : Str → Rat) (ts : List (Str × Str)) : D := .ins "System" (sysF ns f ts)
def TsOk (ls ts : List (Str × Str)) : Prop := (∀ p, p ∈ ts ↔ p ∈ ls) ∧ ts.length ≤ 60 ∧ AscP ts
structure Kq (k : Nat) (Ω Ω' : Sto) : Prop where
  len : Ω.length ≤ Ω'.length
  at_ : ∀ i, i < Ω.length → i ≠ k → Ω'[i]? = Ω[i]?
def InitS (g : List D → Sto → R D) : Prop := ∀ (ns ms : List Str) (f : Str → Rat) (ls ps : List (Str × Str)) (h : Str → D) (x : D) (ds : List D) Ω k, HouseOk ns f ls → ms.Perm ns → (∀ n ∈ ns, HandedOk (h n) (f n)) → (x = .lst ds ∨ x = .tup ds) → ds.length = ps.length →
  (∀ (i : Nat) (a : D) (p : Str × Str), ds[i]? = some a → ps[i]? = some p → Told a p) → ps.length ≤ 60 → (∀ p, p ∈ ps ↔ p ∈ ls) → Ω[k]? = some (.ins "System" []) →
  ∃ (ts : List (Str × Str)) (Ω' : Sto), g [.hd k, .dk (ms.map fun n => ((Sum.inr n : Key), h n)), x] Ω = .ok .non Ω' ∧ Ω'[k]? = some (.ins "System" (sysF ns f ts)) ∧ TsOk ls ts ∧ Kq k Ω Ω'
theorem fldD_in {flds : Str → List Str} {c g : Str} {fs : List (Str × D)} (h : (flds c).contains g = true) : fldD flds g (.ins c fs) = fs.lookup g := by
  show (if (flds c).contains g = true then _ else _) = _
  rw [if_pos h]
theorem init_ok {ft : FT} (h1 : Has ft "is_name" IsNameS) (h2 : Has ft "share_of" ShareOfS) (h3 : Has ft "rising" RisingS) (h4 : Has ft "checked_links" ChLinksS) (h5 : Has ft "partners" PartS)
    (d1 : ft.dfl "is_name" = []) (d2 : ft.dfl "share_of" = []) (d3 : ft.dfl "rising" = []) (d4 : ft.dfl "checked_links" = []) (d5 : ft.dfl "partners" = [])
    (f1 : (ft.flds "System").contains "worths" = true) (f2 : (ft.flds "System").contains "ties" = true) (f3 : (ft.flds "System").contains "beside" = true) : InitS (runD ft 3 4 C.s_System___init__) := by
  intro ns ms f ls ps h x ds Ω k H hm hh hx hl ht hl2 hp hk
  suffices q : ∃ e Ω', runD ft 3 4 C.s_System___init__ [.hd k, .dk (ms.map fun n => ((Sum.inr n : Key), h n)), x] Ω = .ok e Ω' ∧ e = .non ∧ ∃ ts, Ω'[k]? = some (.ins "System" (sysF ns f ts)) ∧ TsOk ls ts ∧ Kq k Ω Ω' by
    obtain ⟨e, Ω', e1, rfl, ts, q⟩ := q
    exact ⟨ts, Ω', e1, q⟩
  refine run_of rfl ?_
  generalize hsh : D.dk (ms.map fun n => ((Sum.inr n : Key), h n)) = sh
  show SW (exL ft C.s_System___init__ [some (.hd k), some sh, some x, none] Ω) _ _
  unfold C.s_System___init__
  have min : ∀ n, n ∈ ms ↔ n ∈ ns := fun n => hm.mem_iff
  have mnd : ms.Nodup := hm.nodup_iff.mpr (asc_nd H.asc)
  have it1 : iterD sh = some (ms.map .str) := by rw [← hsh]; exact it_dk ms h
  have lks : ∀ Ω, lk Ω sh = sh := fun Ω => by rw [← hsh]; rfl
  have ix : ∀ n ∈ ns, idxD sh (.str n) = some (h n) := fun n hn => by rw [← hsh]; exact idx_dk h ((min n).mpr hn)
  have so : ∀ n ∈ ns, ∀ g, ShareOfS g → ∀ Ω, g [h n] Ω = .ok (frac (f n)) Ω := fun n hn g hg Ω => hg (h n) (f n) Ω (hh n hn) ((H.sh n hn).2.2.mono (by decide)) (H.sh n hn).1 (H.sh n hn).2.1
  rw [SW_cons]
  simp_arith only [it1]
  refine for_of (fun i ρ Ω' => Ω' = Ω ∧ ∃ z, ρ = [some (.hd k), some sh, some x, z]) ⟨rfl, none, rfl⟩ (fun i y ρ Ω1 hy hi => ?_) (fun ρ Ω1 hi => ?_)
  · obtain ⟨rfl, z, rfl⟩ := hi
    rw [List.getElem?_map] at hy
    cases e : ms[i]? with
    | none => rw [e] at hy; cases hy
    | some n =>
      rw [e] at hy
      cases hy
      have hn : n ∈ ns := (min n).mp (List.mem_of_getElem? e)
      rw [SW_cons]
      simp_arith only [d1, d2]
      refine call_of h1 fun g hg => ⟨_, _, hg n Ω1 (H.nm n hn), ?_⟩
      simp_arith only [lks, ix n hn]
      refine call_of h2 fun g hg => ⟨_, _, so n hn g hg Ω1, ?_⟩
      simp_arith only [lks, ix n hn]
      unfold frac
      simp_arith only []
      rw [SW_nil, SW_nil]
      exact ⟨rfl, _, rfl⟩
  · obtain ⟨rfl, z, rfl⟩ := hi
    have lst1 : biD .list [sh] = some (.lst (ms.map .str)) := by rw [← hsh]; exact list_dk' ms h
    have es : sortS ms = ns := asc_ext (sortS_asc _) H.asc fun n => by rw [sortS_mem]; exact min n
    rw [SW_cons]
    simp_arith only [lks, lst1, d3]
    have hml : ms.length ≤ 12 := by rw [hm.length_eq]; exact H.len
    refine call_of h3 fun g hg => ⟨_, _, hg (.lst (ms.map .str)) ms Ω1 rfl (by omega), ?_⟩
    simp_arith only [lks, lst1, d3]
    rw [es]
    have itn : iterD (.lst (ns.map .str)) = some (ns.map .str) := rfl
    simp_arith only [itn, d2]
    refine dc_pure (fun n => n) (fun n => frac (f n)) (by have := H.len; unfold big; simp; omega) (fun n hn => ?_) (nd_keys _ (asc_nd H.asc)) ?_
    · simp_arith only [lks, ix n hn]
      exact call_of h2 fun g hg => ⟨_, _, so n hn g hg Ω1, rfl, rfl⟩
    · simp_arith only [hk, f1]
      rw [if_pos ⟨by decide, trivial⟩, SW_nx]
      have p1 : putFD "worths" (D.dk (ns.map fun s => ((Sum.inr s : Key), frac (f s)))) [] = [(("worths" : Str), shD ns f)] := rfl
      rw [p1]
      generalize hΩ2 : Ω1.set k (Ob.ins "System" [(("worths" : Str), shD ns f)]) = Ω2
      have k2 : Ω2[k]? = some (.ins "System" [(("worths" : Str), shD ns f)]) := by rw [← hΩ2]; exact set_get hk
      have q2 : Kq k Ω1 Ω2 := by rw [← hΩ2]; exact ⟨by rw [List.length_set]; exact Nat.le_refl _, fun i _ hi => List.getElem?_set_ne (Ne.symm hi)⟩
      have lkw : ([(("worths" : Str), shD ns f)] : List (Str × D)).lookup ("worths" : Str) = some (shD ns f) := by simp
      rw [SW_cons]
      simp_arith only [lk_hi Ω2 k2, fldD_in f1, lkw, d4]
      have okp : ∀ p ∈ ps, NameOk p.1 ∧ NameOk p.2 ∧ ltS p.1 p.2 ∧ inD (.str p.1) (shD ns f) = some true ∧ inD (.str p.2) (shD ns f) = some true := fun p hpp => by
        obtain ⟨g1, g2, g3⟩ := H.lk p ((hp p).mp hpp)
        exact ⟨H.nm _ g1, H.nm _ g2, g3, in_dk _ g1, in_dk _ g2⟩
      refine call_of h4 fun g hg => ?_
      obtain ⟨ts, Ω3, e3, t1, t2, t3, g3⟩ := hg x ds ps (shD ns f) Ω2 hx hl ht (by omega) (fun j hj => by cases hj) okp
      refine ⟨_, _, e3, ?_⟩
      simp_arith only [lk_hi Ω2 k2, fldD_in f1, lkw, d4]
      have k3 : Ω3[k]? = some (.ins "System" [(("worths" : Str), shD ns f)]) := (g3.at_ k (List.getElem?_eq_some_iff.mp k2).1).trans k2
      simp_arith only [k3, f2]
      rw [if_pos ⟨by decide, trivial⟩, SW_nx]
      have p2 : putFD "ties" (.lst (ts.map pr)) [(("worths" : Str), shD ns f)] = [(("worths" : Str), shD ns f), (("ties" : Str), D.lst (ts.map pr))] := by
        show (if ("worths" : Str) = "ties" then _ else _) = _
        rw [if_neg (by decide)]; rfl
      rw [p2]
      generalize hΩ4 : Ω3.set k (Ob.ins "System" [(("worths" : Str), shD ns f), (("ties" : Str), D.lst (ts.map pr))]) = Ω4
      have k4 : Ω4[k]? = some (.ins "System" [(("worths" : Str), shD ns f), (("ties" : Str), D.lst (ts.map pr))]) := by rw [← hΩ4]; exact set_get k3
      have q4 : Kq k Ω1 Ω4 := by
        rw [← hΩ4]
        refine ⟨by rw [List.length_set]; exact Nat.le_trans q2.len g3.len, fun i hi hik => ?_⟩
        rw [List.getElem?_set_ne (Ne.symm hik)]
        exact (g3.at_ i (Nat.lt_of_lt_of_le hi q2.len)).trans (q2.at_ i hi hik)
      have lw : ([(("worths" : Str), shD ns f), (("ties" : Str), D.lst (ts.map pr))] : List (Str × D)).lookup ("worths" : Str) = some (shD ns f) := by simp
      have lt : ([(("worths" : Str), shD ns f), (("ties" : Str), D.lst (ts.map pr))] : List (Str × D)).lookup ("ties" : Str) = some (.lst (ts.map pr)) := by
        rw [List.lookup_cons]
        have : (("ties" : Str) == "worths") = false := by decide
        rw [this]; simp
      rw [SW_cons]
      have itw : iterD (shD ns f) = some (ns.map .str) := it_dk ns _
      simp_arith only [lk_hi Ω4 k4, fldD_in f1, lw, itw, d5]
      refine dc_pure (fun n => n) (fun n => .lst ((nb ts n).map .str)) (by have := H.len; unfold big; simp; omega) (fun n hn => ?_) (nd_keys _ (asc_nd H.asc)) ?_
      · simp_arith only [lk_hi Ω4 k4, fldD_in f2, lt]
        refine call_of h5 fun g hg => ⟨_, _, hg ts n Ω4 (fun p hpp => ?_) (H.nm n hn) (by omega), rfl, rfl⟩
        obtain ⟨w1, w2, w3, _⟩ := okp p ((t1 p).mp hpp)
        exact ⟨w1, w2, w3⟩
      · simp_arith only [k4, f3]
        rw [if_pos ⟨by decide, trivial⟩, SW_nx, SW_nil]
        have p3 : putFD "beside" (D.dk (ns.map fun s => ((Sum.inr s : Key), D.lst ((nb ts s).map .str)))) [(("worths" : Str), shD ns f), (("ties" : Str), D.lst (ts.map pr))] = sysF ns f ts := by
          show (if ("worths" : Str) = "beside" then _ else (("worths" : Str), shD ns f) :: (if ("ties" : Str) = "beside" then _ else _)) = _
          rw [if_neg (by decide), if_neg (by decide)]; rfl
        rw [p3]
        refine ⟨by trivial, ts, set_get k4, ⟨fun p => (t1 p).trans (hp p), by omega, t3⟩, ⟨by rw [List.length_set]; exact q4.len, fun i hi hik => ?_⟩⟩
        rw [List.getElem?_set_ne (Ne.symm hik)]; exact q4.at_ i hi hik
end Rf
end
section
namespace Rf
open PySem L2
def MadeS (g : List D → Sto → R D) : Prop := ∀ (ns : List Str) (f : Str → Rat) (ls : List (Str × Str)) Ω s b c, HouseOk ns f ls → Sp Ω s b c → c + 400 < 2 ^ 40 → ∃ (ts : List (Str × Str)) (Ω' : Sto), g [.hd s, shD ns f, .lst (ls.map pr)] Ω = .ok (sysD ns f ts) Ω' ∧ TsOk ls ts ∧ Sp Ω' s b (c + 400) ∧ Kp s b Ω Ω'
theorem GD_pr {p : Str × Str} (h1 : NameOk p.1) (h2 : NameOk p.2) : GD (pr p) := by
  obtain ⟨a, e1, e2, e3⟩ := GD_str h1
  obtain ⟨b, f1, f2, f3⟩ := GD_str h2
  cases e1
  cases f1
  refine ⟨.tuple [.str p.1, .str p.2], rfl, ?_, ?_⟩
  · rw [PyData.canLay0]; simp [PyData.canLayAll0, e2, f2]
  · simp [PyData.depth, PyData.depthAll]
theorem fun_ofA {α : Type} (z : α) {ns : List Str} (nd : ns.Nodup) : ∀ {rs : List α}, rs.length = ns.length → ∃ f : Str → α, ns.map f = rs := by
  induction ns with
  | nil => intro rs h; exact ⟨fun _ => z, by simpa using (List.length_eq_zero_iff.mp (by simpa using h)).symm⟩
  | cons n ns ih =>
    intro rs h
    cases rs with
    | nil => simp at h
    | cons r rs =>
      obtain ⟨f, hf⟩ := ih (List.nodup_cons.mp nd).2 (rs := rs) (by simpa using h)
      refine ⟨fun x => if x = n then r else f x, ?_⟩
      rw [List.map_cons, if_pos rfl]
      congr 1
      rw [← hf]
      refine List.map_congr_left fun x hx => ?_
      rw [if_neg]
      intro e
      exact (List.nodup_cons.mp nd).1 (e ▸ hx)
theorem zip_snoc {α β γ : Type} (F : α → β → γ) {ns : List α} {rs : List β} {n : α} {r : β} (e : ns[rs.length]? = some n) : List.zipWith F ns rs ++ [F n r] = List.zipWith F ns (rs ++ [r]) := by
  induction rs generalizing ns with
  | nil => cases ns with
    | nil => simp at e
    | cons a ns => simp at e; subst e; simp
  | cons x rs ih => cases ns with
    | nil => simp at e
    | cons a ns => simp only [List.zipWith_cons_cons, List.cons_append]; rw [ih (by simpa using e)]
theorem perm2 {a b : Str} {zs : List Str} (h : zs.Perm [a, b]) : zs = [a, b] ∨ zs = [b, a] := by
  have hl := h.length_eq
  match zs, hl with
  | [u, v], _ =>
    have hu : u ∈ [a, b] := h.subset (by simp)
    simp only [List.mem_cons, List.not_mem_nil, or_false] at hu
    rcases hu with rfl | rfl
    · have := (List.perm_cons u).mp h
      have : v = b := by simpa using this
      exact .inl (by rw [this])
    · have h2 : [u, v].Perm [u, a] := h.trans (List.Perm.swap u a [])
      have := (List.perm_cons u).mp h2
      have : v = a := by simpa using this
      exact .inr (by rw [this])
theorem made_ok {ft : FT} (h : Has ft "_law_take" TakeS) (h1 : Has ft "_law_mixed" MixedS) (h2 : Has ft "_law_loose" LooseS) (h3 : Has ft "_law_handed" HandS) (h4 : Has ft "System.__init__" InitS)
    (d0 : ft.dfl "_law_take" = []) (d1 : ft.dfl "_law_mixed" = []) (d2 : ft.dfl "_law_loose" = []) (d3 : ft.dfl "_law_handed" = []) (d4 : (ft.dfl "System.__init__").drop 1 = []) : MadeS (runD ft 3 8 C.s__law_made) := by
  intro ns f ls Ω s b c H hs hc
  suffices q : ∃ e Ω', runD ft 3 8 C.s__law_made [.hd s, shD ns f, .lst (ls.map pr)] Ω = .ok e Ω' ∧ ∃ ts, e = sysD ns f ts ∧ TsOk ls ts ∧ Sp Ω' s b (c + 400) ∧ Kp s b Ω Ω' by
    obtain ⟨e, Ω', e1, ts, rfl, q⟩ := q
    exact ⟨ts, Ω', e1, q⟩
  have hll := H.ll
  have hln := H.len
  refine run_of rfl ?_
  show SW (exL ft C.s__law_made [some (.hd s), some (shD ns f), some (.lst (ls.map pr)), none, none, none, none, none] Ω) _ _
  unfold C.s__law_made
  have lks : ∀ Ω, lk Ω (shD ns f) = shD ns f := fun _ => rfl
  have ln : biD .list [shD ns f] = some (.lst (ns.map .str)) := list_dk' ns _
  rw [SW_cons]
  simp_arith only [lks, ln, d1]
  refine call_of h1 fun g hg => ?_
  obtain ⟨ys, Ω1, e, hy, s1, k1⟩ := hg Ω s b c (.lst (ns.map .str)) (ns.map .str) hs (by rw [List.length_map]; omega) (fun k => by simp) rfl (fun x hx => by obtain ⟨n, hn', rfl⟩ := List.mem_map.mp hx; exact GD_str (H.nm n hn')) (by rw [List.length_map]; omega)
  refine ⟨_, _, e, ?_⟩
  simp_arith only [lks, ln, d1]
  obtain ⟨ms, rfl, hm⟩ := perm_map_inv hy
  rw [List.length_map] at s1
  rw [SW_cons]
  simp_arith only []
  obtain ⟨sl, bl⟩ := s1.lt
  generalize hL : Ω1.length = L at *
  have s2 : Sp (Ω1 ++ [Ob.lst []]) s b (c + ns.length) := s1.at_ (List.getElem?_append_left (by omega)) (List.getElem?_append_left (by omega)) (Int.le_refl _)
  have k2 : Kp s b Ω (Ω1 ++ [Ob.lst []]) := k1.trans ⟨by rw [List.length_append]; omega, fun i hi _ _ => List.getElem?_append_left hi⟩
  have hL2 : (Ω1 ++ [Ob.lst []])[L]? = some (.lst []) := by rw [List.getElem?_append_right (by omega), hL, Nat.sub_self]; rfl
  have lll : biD .list [.lst (ls.map pr)] = some (.lst (ls.map pr)) := rfl
  rw [SW_cons]
  simp_arith only [lll, d0, d1]
  refine call_of h fun g hg => ?_
  obtain ⟨v, Ω3, e, v0, v1, s3, k3⟩ := hg _ s b (c + ns.length) 2 s2 (by omega) (by omega) (by omega)
  refine ⟨_, _, e, ?_⟩
  simp_arith only [lll, d0, d1]
  have hL3 : Ω3[L]? = some (.lst []) := (k3.at_ L (by rw [List.length_append]; simp; omega) (by omega) (by omega)).trans hL2
  simp_arith only [slc_l]
  rw [cut_map, addl]
  have cl : (cutD ls none (some v)).length ≤ 1 := by
    unfold cutD
    rw [HT.sIx_none, List.length_take]
    have : HT.sIx ls.length ls.length (some v) ≤ 1 := by
      show (if v < 0 then (v + (ls.length : Int)).toNat else Nat.min v.toNat ls.length) ≤ 1
      rw [if_neg (by omega)]
      exact Nat.le_trans (Nat.min_le_left ..) (by omega)
    omega
  rw [if_pos (by simp only [List.length_map]; unfold big; omega)]
  simp_arith only []
  rw [← List.map_append]
  have pin : ∀ p, p ∈ ls ++ cutD ls none (some v) ↔ p ∈ ls := fun p => by
    rw [List.mem_append]
    exact ⟨fun h => h.elim id cut_mem, .inl⟩
  have pl : (ls ++ cutD ls none (some v)).length ≤ 41 := by rw [List.length_append]; omega
  generalize ls ++ cutD ls none (some v) = qs at *
  have qok : ∀ p ∈ qs, NameOk p.1 ∧ NameOk p.2 := fun p hp => by
    obtain ⟨g1, g2, _⟩ := H.lk p ((pin p).mp hp)
    exact ⟨H.nm _ g1, H.nm _ g2⟩
  refine call_of h1 fun g hg => ?_
  obtain ⟨ys, Ω4, e, hy2, s4, k4⟩ := hg Ω3 s b (c + ns.length + 1) (.lst (qs.map pr)) (qs.map pr) s3 (by rw [List.length_map]; omega) (fun k => by simp) rfl (fun x hx => by obtain ⟨p, hp, rfl⟩ := List.mem_map.mp hx; exact GD_pr (qok p hp).1 (qok p hp).2) (by rw [List.length_map]; omega)
  refine ⟨_, _, e, ?_⟩
  simp_arith only []
  obtain ⟨ps, rfl, hps⟩ := perm_map_inv hy2
  have psin : ∀ p, p ∈ ps ↔ p ∈ ls := fun p => by rw [hps.mem_iff]; exact pin p
  have pslen : ps.length ≤ 41 := by rw [hps.length_eq]; exact pl
  have L3 : L < Ω3.length := (List.getElem?_eq_some_iff.mp hL3).1
  have hL4 : Ω4[L]? = some (.lst []) := (k4.at_ L L3 (by omega) (by omega)).trans hL3
  have k40 : Kp s b Ω Ω4 := (k2.trans k3).trans k4
  have hOL : Ω.length ≤ L := by have := k1.len; omega
  rw [List.length_map] at s4
  have ite : iterD (.lst (ps.map pr)) = some (ps.map pr) := rfl
  simp_arith only [ite]
  refine for_of (fun i ρ Ω' => ∃ (z1 z2 : Option D) (ds : List D), ρ = [some (.hd s), some (shD ns f), some (.lst (ls.map pr)), some (.lst (ms.map .str)), some (.hd L), z1, z2, none] ∧ Ω'[L]? = some (.lst ds) ∧ ds.length = i ∧ (∀ (j : Nat) (a : D) (p : Str × Str), ds[j]? = some a → ps[j]? = some p → Told a p) ∧ Sp Ω' s b (c + 60 + 3 * i) ∧ Kp s b Ω Ω')
    ⟨none, none, [], rfl, hL4, rfl, fun j a p ha => by simp at ha, s4.le (by omega), k40⟩ (fun i y ρ Ω5 hy hi => ?_) (fun ρ Ω5 hi => ?_)
  · obtain ⟨z1, z2, ds, rfl, hf, hdl, htd, s5, k5⟩ := hi
    rw [List.getElem?_map] at hy
    cases e1 : ps[i]? with
    | none => rw [e1] at hy; cases hy
    | some p =>
      rw [e1] at hy
      have hy : pr p = y := Option.some.inj hy
      subst hy
      have hi : i < ps.length := (List.getElem?_eq_some_iff.mp e1).1
      have pm : p ∈ ps := List.mem_of_getElem? e1
      obtain ⟨pn1, pn2⟩ := qok p (hps.subset pm)
      show SW (exL ft _ [some (.hd s), some (shD ns f), some (.lst (ls.map pr)), some (.lst (ms.map .str)), some (.hd L), some (.str p.1), some (.str p.2), none] Ω5) _ _
      rw [SW_cons]
      simp_arith only [lk_hl Ω5 hf, d1, d2]
      refine call_of h1 fun g hg => ?_
      obtain ⟨ys, Ω6, e, hy6, s6, k6⟩ := hg Ω5 s b (c + 60 + 3 * i) (.lst [.str p.1, .str p.2]) [.str p.1, .str p.2] s5 (by simp; omega) (fun k => by simp) rfl (fun x hx => by
        have : x = .str p.1 ∨ x = .str p.2 := by simpa using hx
        rcases this with rfl | rfl
        · exact GD_str pn1
        · exact GD_str pn2) (by simp)
      refine ⟨_, _, e, ?_⟩
      simp_arith only [lk_hl Ω5 hf, d1, d2]
      obtain ⟨zs, rfl, hzs⟩ := perm_map_inv (f := D.str) (xs := [p.1, p.2]) hy6
      refine call_of h2 fun g hg => ?_
      obtain ⟨d, Ω7, e7, hd7, s7, k7⟩ := hg Ω6 s b (c + 60 + 3 * i + 2) (zs.map .str) s6 (by omega)
      refine ⟨_, _, e7, ?_⟩
      simp_arith only [lk_hl Ω5 hf, d1, d2]
      have L5 : L < Ω5.length := (List.getElem?_eq_some_iff.mp hf).1
      have hf7 : Ω7[L]? = some (.lst ds) := ((k6.trans k7).at_ L L5 (by omega) (by omega)).trans hf
      simp_arith only [hf7]
      rw [if_pos (by unfold big; omega)]
      simp_arith only []
      rw [SW_nil]
      refine ⟨_, _, ds ++ [d], rfl, set_get hf7, by simp [hdl], fun j a q ha hq => ?_, s7.at_ ?_ ?_ (by omega), ⟨?_, fun j hj g1 g2 => ?_⟩⟩
      · by_cases hj : j < ds.length
        · rw [List.getElem?_append_left hj] at ha
          exact htd j a q ha hq
        · have hj2 : j = i := by
            have := (List.getElem?_eq_some_iff.mp ha).1
            rw [List.length_append, List.length_singleton] at this
            omega
          subst hj2
          rw [List.getElem?_append_right (by omega), hdl, Nat.sub_self] at ha
          have ha : d = a := Option.some.inj ha
          rw [e1] at hq
          cases hq
          subst ha
          rcases perm2 hzs with rfl | rfl
          · exact ⟨p.1, p.2, hd7, .inl ⟨rfl, rfl⟩⟩
          · exact ⟨p.2, p.1, hd7, .inr ⟨rfl, rfl⟩⟩
      · exact List.getElem?_set_ne (by omega)
      · exact List.getElem?_set_ne (by omega)
      · rw [List.length_set]; exact Nat.le_trans k5.len (k6.trans k7).len
      · rw [List.getElem?_set_ne (by omega)]; exact (k5.trans (k6.trans k7)).at_ j hj g1 g2
  · obtain ⟨z1, z2, ds, rfl, hf, hdl, htd, s5, k5⟩ := hi
    rw [List.length_map] at hdl s5
    rw [SW_cons]
    have itm : iterD (.lst (ms.map .str)) = some (ms.map .str) := rfl
    simp_arith only [itm, d2, d3]
    have mnd : ms.Nodup := hm.nodup_iff.mpr (asc_nd H.asc)
    have mlen : ms.length = ns.length := hm.length_eq
    refine lc_of (fun i acc Ω' => ∃ rs : List D, rs.length = i ∧ acc = List.zipWith (fun n r => D.tup [.str n, r]) ms rs ∧ (∀ (j : Nat) n r, ms[j]? = some n → rs[j]? = some r → HandedOk r (f n)) ∧ Ω'[L]? = some (.lst ds) ∧ Sp Ω' s b (c + 200 + 2 * i) ∧ Kp s b Ω Ω') (by rw [List.length_map]; unfold big; omega) ⟨[], rfl, by simp, by simp, hf, s5.le (by omega), k5⟩ (fun i x acc Ω6 hx hi => ?_) (fun acc Ω6 hi => ?_)
    · obtain ⟨rs, hrl, rfl, hr, hf6, s6, k6⟩ := hi
      rw [List.getElem?_map] at hx
      cases e1 : ms[i]? with
      | none => rw [e1] at hx; cases hx
      | some n =>
        rw [e1] at hx
        cases hx
        have hi : i < ms.length := (List.getElem?_eq_some_iff.mp e1).1
        have hn : n ∈ ns := hm.subset (List.mem_of_getElem? e1)
        have ixn : idxD (shD ns f) (.str n) = some (frac (f n)) := idx_dk _ hn
        simp_arith only [lks, ixn]
        refine call_of h3 fun g hg => ?_
        obtain ⟨d, Ω7, e7, hd7, s7, k7⟩ := hg Ω6 s b (c + 200 + 2 * i) (f n) s6 (by omega) (H.sh n hn).2.2
        refine ⟨_, _, e7, ?_⟩
        simp_arith only [lks, ixn]
        have L6 : L < Ω6.length := (List.getElem?_eq_some_iff.mp hf6).1
        refine ⟨rs ++ [d], by simp [hrl], ?_, fun j m r hj hjr => ?_, (k7.at_ L L6 (by omega) (by omega)).trans hf6, s7.le (by omega), k6.trans k7⟩
        · exact zip_snoc (fun n r => D.tup [.str n, r]) (by rw [hrl]; exact e1)
        · by_cases hj2 : j < rs.length
          · rw [List.getElem?_append_left hj2] at hjr
            exact hr j m r hj hjr
          · have hj3 : j = i := by
              have := (List.getElem?_eq_some_iff.mp hjr).1
              rw [List.length_append, List.length_singleton] at this
              omega
            subst hj3
            rw [List.getElem?_append_right (by omega), hrl, Nat.sub_self] at hjr
            have hjr : d = r := Option.some.inj hjr
            rw [e1] at hj
            cases hj
            subst hjr
            exact hd7
    · obtain ⟨rs, hrl, rfl, hr, hf6, s6, k6⟩ := hi
      rw [List.length_map] at hrl s6
      obtain ⟨hh, hhe⟩ := fun_ofA .non mnd hrl
      have ez : List.zipWith (fun n r => D.tup [.str n, r]) ms rs = ms.map fun n => D.tup [.str n, hh n] := by
        rw [← hhe, List.zipWith_map_right]
        exact List.zipWith_self
      have hho : ∀ n ∈ ns, HandedOk (hh n) (f n) := fun n hn => by
        obtain ⟨j, hj, e1⟩ := List.mem_iff_getElem.mp (hm.symm.subset hn)
        refine hr j n (hh n) (by rw [← e1]; exact List.getElem?_eq_getElem hj) ?_
        rw [← hhe, List.getElem?_map, List.getElem?_eq_getElem hj, e1]; rfl
      have ed := dict_new (fun n : Str => n) hh ms (by simpa using mnd)
      rw [ez]
      simp_arith only [ed, hf6]
      have L6 : L < Ω6.length := (List.getElem?_eq_some_iff.mp hf6).1
      have s7 : Sp (Ω6.set L .dead) s b (c + 200 + 2 * ms.length) := s6.at_ (List.getElem?_set_ne (by omega)) (List.getElem?_set_ne (by omega)) (Int.le_refl _)
      have k7 : Kp s b Ω (Ω6.set L .dead) := ⟨by rw [List.length_set]; exact k6.len, fun j hj g1 g2 => by rw [List.getElem?_set_ne (by omega)]; exact k6.at_ j hj g1 g2⟩
      refine call_of h2 fun g hg => ?_
      obtain ⟨x, Ω8, e8, hx8, s8, k8⟩ := hg _ s b (c + 200 + 2 * ms.length) ds s7 (by omega)
      refine ⟨_, _, e8, ?_⟩
      try simp_arith only []
      obtain ⟨gi, egi, hgi⟩ := h4
      have last : (Ω8 ++ [Ob.ins "System" []])[Ω8.length]? = some (.ins "System" []) := by rw [List.getElem?_append_right (Nat.le_refl _), Nat.sub_self]; rfl
      obtain ⟨ts, Ω9, e9, t1, t2, t3⟩ := hgi ns ms f ls ps hh x ds (Ω8 ++ [Ob.ins "System" []]) Ω8.length H hm hho hx8 hdl htd (by omega) psin last
      rw [egi]
      simp_arith only [d4, e9, t1]
      obtain ⟨sl8, bl8⟩ := s8.lt
      have q9 : ∀ i, i < Ω8.length → Ω9[i]? = Ω8[i]? := fun i hi => (t3.at_ i (by rw [List.length_append]; omega) (by omega)).trans (List.getElem?_append_left hi)
      refine ⟨ts, rfl, t2, s8.at_ ?_ ?_ (by omega), (k7.trans k8).trans ⟨?_, fun i hi _ _ => ?_⟩⟩
      · rw [List.getElem?_set_ne (by omega)]; exact q9 s sl8
      · rw [List.getElem?_set_ne (by omega)]; exact q9 b bl8
      · rw [List.length_set]; have := t3.len; rw [List.length_append] at this; omega
      · rw [List.getElem?_set_ne (by omega)]; exact q9 i hi
end Rf
end
section
namespace Fm
section
variable {α : Type} [DecidableEq α]
/-! ### all parts of a list, and sums over them -/
def grow (F : List (List α)) : List α → List (List α)
  | [] => F
  | x :: l => grow (F ++ F.map (· ++ [x])) l
def parts (l : List α) : List (List α) := grow [[]] l
theorem grow_perm {A B : List (List α)} (h : A.Perm B) (l : List α) : (grow A l).Perm (grow B l) := by
  induction l generalizing A B with
  | nil => exact h
  | cons x l ih => exact ih (h.append (h.map _))
theorem grow_append (A B : List (List α)) (l : List α) : (grow (A ++ B) l).Perm (grow A l ++ grow B l) := by
  induction l generalizing A B with
  | nil => exact .refl _
  | cons x l ih =>
    refine (grow_perm ?_ l).trans (ih (A ++ A.map (· ++ [x])) (B ++ B.map (· ++ [x])))
    rw [List.map_append, List.append_assoc, List.append_assoc]
    refine List.Perm.append_left A ?_
    rw [← List.append_assoc, ← List.append_assoc]
    exact List.Perm.append_right _ List.perm_append_comm
theorem grow_map (n : α) (A : List (List α)) (l : List α) : grow (A.map (n :: ·)) l = (grow A l).map (n :: ·) := by
  induction l generalizing A with
  | nil => rfl
  | cons x l ih =>
    rw [grow, grow, ← ih]
    congr 1
    rw [List.map_append, List.map_map, List.map_map]
    rfl
theorem parts_cons (n : α) (l : List α) : (parts (n :: l)).Perm (parts l ++ (parts l).map (n :: ·)) := by
  show (grow ([[]] ++ [[n]]) l).Perm _
  refine (grow_append _ _ l).trans ?_
  rw [show ([[n]] : List (List α)) = [[]].map (n :: ·) from rfl, grow_map]
  exact .refl _
def sumR (g : List α → Rat) : List (List α) → Rat
  | [] => 0
  | P :: r => g P + sumR g r
theorem sumR_append (g : List α → Rat) (A B : List (List α)) : sumR g (A ++ B) = sumR g A + sumR g B := by
  induction A with
  | nil => simp only [List.nil_append, sumR]; grind
  | cons P A ih => simp only [List.cons_append, sumR, ih]; grind
theorem sumR_perm {g : List α → Rat} {A B : List (List α)} (h : A.Perm B) : sumR g A = sumR g B := by
  induction h with
  | nil => rfl
  | cons x _ ih => simp only [sumR, ih]
  | swap x y l => simp only [sumR]; grind
  | trans _ _ h1 h2 => rw [h1, h2]
theorem sumR_map (g : List α → Rat) (h : List α → List α) (A : List (List α)) : sumR g (A.map h) = sumR (fun P => g (h P)) A := by
  induction A with
  | nil => rfl
  | cons P A ih => simp only [List.map_cons, sumR, ih]
/-- the sum over all parts -/
def T : (List α → Rat) → List α → Rat
  | g, [] => g []
  | g, x :: l => T g l + T (fun P => g (x :: P)) l
theorem sumR_parts (g : List α → Rat) (l : List α) : sumR g (parts l) = T g l := by
  induction l generalizing g with
  | nil => show g [] + 0 = g []; grind
  | cons x l ih => rw [sumR_perm (parts_cons x l), sumR_append, sumR_map, ih, ih]; rfl
theorem T_congr {g h : List α → Rat} {l : List α} (e : ∀ P, P.Sublist l → g P = h P) : T g l = T h l := by
  induction l generalizing g h with
  | nil => exact e [] (List.Sublist.refl _)
  | cons x l ih =>
    rw [T, T, ih fun P hP => e P (hP.cons x), ih fun P hP => e (x :: P) (hP.cons_cons x)]
theorem T_add (g h : List α → Rat) (l : List α) : T (fun P => g P + h P) l = T g l + T h l := by
  induction l generalizing g h with
  | nil => rfl
  | cons x l ih => simp only [T, ih]; grind
theorem T_mul (c : Rat) (g : List α → Rat) (l : List α) : T (fun P => c * g P) l = c * T g l := by
  induction l generalizing g with
  | nil => rfl
  | cons x l ih => simp only [T, ih]; grind
theorem T_zero (l : List α) : T (fun _ => (0 : Rat)) l = 0 := by
  induction l with
  | nil => rfl
  | cons x l ih => simp only [T, ih]; grind
theorem T_filter (p : α → Bool) (g : List α → Rat) (l : List α) : T (fun P => if P.all p = true then g P else 0) l = T g (l.filter p) := by
  induction l generalizing g with
  | nil => simp [T]
  | cons x l ih =>
    rw [T, ih]
    by_cases h : p x = true
    · have e : (fun P : List α => if (x :: P).all p = true then g (x :: P) else 0) = fun P => if P.all p = true then g (x :: P) else 0 := by
        funext P; simp [h]
      rw [e, ih, List.filter_cons, if_pos h, T]
    · have e : (fun P : List α => if (x :: P).all p = true then g (x :: P) else 0) = fun _ => 0 := by
        funext P; simp [h]
      rw [e, T_zero, List.filter_cons, if_neg h]
      grind
/-! ### free sums -/
variable (adj : α → α → Bool) (f : α → Rat)
def far (n : α) (r : List α) : List α := r.filter fun x => !adj n x
def fs : List α → Rat
  | [] => 1
  | n :: r => fs r - f n * fs (far adj n r)
termination_by l => l.length
decreasing_by
  · simp
  · simp only [List.length_cons]; exact Nat.lt_succ_of_le (List.length_filter_le _ _)
def prod : List Rat → Rat
  | [] => 1
  | r :: rs => r * prod rs
def free (P : List α) : Bool := P.all fun a => P.all fun b => !adj a b
def sgn (n : Nat) : Rat := if n % 2 = 0 then 1 else -1
theorem sgn_succ (n : Nat) : sgn (n + 1) = - sgn n := by
  unfold sgn
  rcases Nat.mod_two_eq_zero_or_one n with h | h
  · have h2 : (n + 1) % 2 = 1 := by omega
    simp [h, h2]
  · have h2 : (n + 1) % 2 = 0 := by omega
    simp [h, h2]
def term (P : List α) : Rat := if free adj P = true then sgn P.length * prod (P.map f) else 0
variable {adj} {f}
theorem free_cons (irr : ∀ a, adj a a = false) (sym : ∀ a b, adj a b = adj b a) (n : α) (P : List α) : free adj (n :: P) = (free adj P && P.all fun x => !adj n x) := by
  rw [Bool.eq_iff_iff]
  simp only [free, List.all_eq_true, Bool.and_eq_true, List.mem_cons, Bool.not_eq_true', forall_eq_or_imp, irr, true_and]
  constructor
  · rintro ⟨h1, h2⟩
    exact ⟨fun a ha b hb => (h2 a ha).2 b hb, h1⟩
  · rintro ⟨h1, h2⟩
    exact ⟨h2, fun a ha => ⟨by rw [sym]; exact h2 a ha, h1 a ha⟩⟩
theorem fs_T (irr : ∀ a, adj a a = false) (sym : ∀ a b, adj a b = adj b a) : ∀ (k : Nat) (l : List α), l.length ≤ k → fs adj f l = T (term adj f) l
  | k, [], _ => by rw [fs]; show _ = term adj f []; simp [term, free, sgn, prod]
  | 0, n :: r, h => by simp at h
  | k + 1, n :: r, h => by
    have hr : r.length ≤ k := by simpa using h
    rw [fs, T, fs_T irr sym k r hr, fs_T irr sym k (far adj n r) (Nat.le_trans (List.length_filter_le _ _) hr)]
    have e : (fun P : List α => term adj f (n :: P)) = fun P => (- f n) * (if P.all (fun x => !adj n x) = true then term adj f P else 0) := by
      funext P
      unfold term
      rw [free_cons irr sym]
      by_cases h1 : free adj P = true <;> by_cases h2 : (P.all fun x => !adj n x) = true <;> simp [h1, h2, sgn_succ, prod] <;> grind
    rw [e, T_mul, T_filter]
    unfold far
    grind
end
end Fm
end
section
namespace Rf
open PySem L2
/-- those that are not linked with a fault -/
def far (ts : List (Str × Str)) (n : Str) (r : List Str) : List Str := r.filter fun x => !decide (x ∈ nb ts n)
theorem far_len (ts : List (Str × Str)) (n : Str) (r : List Str) : (far ts n r).length ≤ r.length := List.length_filter_le _ _
theorem far_mem {ts : List (Str × Str)} {n : Str} {r : List Str} {x : Str} (h : x ∈ far ts n r) : x ∈ r := (List.mem_filter.mp h).1
/-- the free sum, by the first fault -/
def FS (f : Str → Rat) (ts : List (Str × Str)) : List Str → Rat
  | [] => 1
  | n :: r => FS f ts r - f n * FS f ts (far ts n r)
termination_by l => l.length
decreasing_by
  · simp
  · simp only [List.length_cons]; exact Nat.lt_succ_of_le (far_len _ _ _)
def bb : Nat → Nat
  | 0 => 1
  | m + 1 => 2 * bb m + 6
theorem bb_mono {m n : Nat} (h : m ≤ n) : bb m ≤ bb n := by
  induction n with
  | zero => have : m = 0 := by omega
            subst this; exact Nat.le_refl _
  | succ n ih =>
    by_cases e : m = n + 1
    · subst e; exact Nat.le_refl _
    · have := ih (by omega)
      show _ ≤ 2 * bb n + 6
      omega
theorem sz_FS {f : Str → Rat} {ts : List (Str × Str)} : ∀ {m : Nat} {l : List Str}, l.length ≤ m → (∀ n ∈ l, sz (f n) 5) → sz (FS f ts l) (bb m)
  | 0, l, hl, _ => by
    have : l = [] := List.length_eq_zero_iff.mp (by omega)
    subst this
    rw [FS]; exact sz_one
  | m + 1, [], _, _ => by rw [FS]; exact sz_one.mono (by show 1 ≤ 2 * bb m + 6; omega)
  | m + 1, n :: r, hl, h => by
    rw [FS]
    have h1 := sz_FS (f := f) (ts := ts) (m := m) (l := r) (by simpa using hl) fun x hx => h x (List.mem_cons_of_mem _ hx)
    have h2 := sz_FS (f := f) (ts := ts) (m := m) (l := far ts n r) (Nat.le_trans (far_len _ _ _) (by simpa using hl)) fun x hx => h x (List.mem_cons_of_mem _ (far_mem hx))
    refine (sz_sub h1 (sz_mul (h n (List.mem_cons_self ..)) h2)).mono ?_
    show _ ≤ 2 * bb m + 6
    omega
theorem keysD_strs (ss : List Str) : keysD (ss.map .str) = some (ss.map fun s => (Sum.inr s : Key)) := by
  induction ss with
  | nil => rfl
  | cons s ss ih => show (match keyD (.str s), keysD (ss.map .str) with | some k, some ks => some (k :: ks) | _, _ => none) = _; rw [ih]; rfl
theorem fracB_strs (ss : List Str) : fracB (ss.map .str) = false := by
  match ss with
  | [] => rfl
  | [_] => rfl
  | [_, _] => rfl
  | _ :: _ :: _ :: _ => rfl
theorem tkey_strs (ss : List Str) : tkeyD (.tup (ss.map .str)) = some (ss.map fun s => (Sum.inr s : Key)) := by
  show (if fracB (ss.map .str) then none else keysD (ss.map .str)) = _
  rw [fracB_strs, keysD_strs]; rfl
/-- the sums that were found before are right -/
def Memo (f : Str → Rat) (ts : List (Str × Str)) (kvs : List (List Key × D)) : Prop := ∀ (ss : List Str) v, getK kvs (ss.map fun s => (Sum.inr s : Key)) = some v → v = frac (FS f ts ss)
/-- all but one object is kept -/
theorem Kq.refl {k : Nat} {Ω : Sto} : Kq k Ω Ω := ⟨Nat.le_refl _, fun _ _ _ => rfl⟩
theorem Kq.trans {k : Nat} {Ω Ω' Ω'' : Sto} (h : Kq k Ω Ω') (h' : Kq k Ω' Ω'') : Kq k Ω Ω'' := ⟨Nat.le_trans h.len h'.len, fun i hi hk => (h'.at_ i (Nat.lt_of_lt_of_le hi h.len) hk).trans (h.at_ i hi hk)⟩
/-- the sums that were found before: of parts of the names, each once -/
structure MemoOk (ns : List Str) (f : Str → Rat) (ts : List (Str × Str)) (kvs : List (List Key × D)) : Prop where
  ok : Memo f ts kvs
  nd : (kvs.map (·.1)).Nodup
  sub : ∀ k ∈ kvs.map (·.1), ∃ P : List Str, P.Sublist ns ∧ k = P.map fun s => (Sum.inr s : Key)
theorem MemoOk.nil {ns : List Str} {f : Str → Rat} {ts : List (Str × Str)} : MemoOk ns f ts [] := ⟨fun ss v hv => (by cases hv), List.Pairwise.nil, fun k hk => (by cases hk)⟩
theorem sub_parts {α : Type} [DecidableEq α] {ss P : List α} (h : P.Sublist ss) : P ∈ Fm.parts ss := by
  induction h with
  | slnil => exact List.mem_singleton.mpr rfl
  | cons x _ ih => exact (Fm.parts_cons _ _).mem_iff.mpr (List.mem_append_left _ ih)
  | cons_cons x _ ih => exact (Fm.parts_cons _ _).mem_iff.mpr (List.mem_append_right _ (List.mem_map.mpr ⟨_, ih, rfl⟩))
theorem parts_len {α : Type} [DecidableEq α] (ss : List α) : (Fm.parts ss).length = 2 ^ ss.length := by
  induction ss with
  | nil => rfl
  | cons x l ih => rw [(Fm.parts_cons x l).length_eq, List.length_append, List.length_map, ih, List.length_cons, Nat.pow_succ]; omega
theorem MemoOk.len {ns : List Str} {f : Str → Rat} {ts : List (Str × Str)} {kvs : List (List Key × D)} (h : MemoOk ns f ts kvs) : kvs.length ≤ 2 ^ ns.length := by
  rw [← parts_len ns, ← List.length_map (f := fun kv : List Key × D => kv.1), ← List.length_map (f := fun P : List Str => P.map fun s => (Sum.inr s : Key))]
  refine len_of_sub h.nd fun k hk => ?_
  obtain ⟨P, hP, rfl⟩ := h.sub k hk
  exact List.mem_map.mpr ⟨P, sub_parts hP, rfl⟩
def SumS (m : Nat) (g : List D → Sto → R D) : Prop := ∀ (ns : List Str) (f : Str → Rat) (ls ts : List (Str × Str)) (ss : List Str) (kvs : List (List Key × D)) Ω k, HouseOk ns f ls → TsOk ls ts → ss.Sublist ns → ss.length ≤ m → Ω[k]? = some (.dt kvs) → MemoOk ns f ts kvs →
  ∃ (kvs' : List (List Key × D)) (Ω' : Sto), g [sysD ns f ts, .tup (ss.map .str), .hd k] Ω = .ok (frac (FS f ts ss)) Ω' ∧ Ω'[k]? = some (.dt kvs') ∧ MemoOk ns f ts kvs' ∧ Kq k Ω Ω'
end Rf
end
section
namespace Rf
open PySem L2
theorem eqD_tnil {xs : List D} (h : ∀ x ∈ xs, GD x) : eqD (.tup xs) (.tup []) = some xs.isEmpty := by
  obtain ⟨ps, f1, f2, f3, f4⟩ := toPys_good h
  unfold eqD
  have e : toPy (.tup xs) = some (.tuple ps) := by show (toPys _).map _ = _; rw [f1]; rfl
  have e2 : toPy (.tup []) = some (.tuple []) := rfl
  have s1 : SeqAt.shaped (.tuple ps) = true := by
    unfold SeqAt.shaped
    rw [Bool.and_eq_true]
    refine ⟨by simp [PyData.canLay0, f2], decide_eq_true ?_⟩
    rw [PyData.depth]
    omega
  have s2 : SeqAt.shaped (.tuple []) = true := by decide
  rw [e, e2]
  simp only [s1, s2, and_self, if_true]
  cases xs with
  | nil =>
    have : ps = [] := List.length_eq_zero_iff.mp (by simpa using f4)
    simp [this, PyData.eqv, PyData.eqvAll]
  | cons x xs =>
    cases ps with
    | nil => simp at f4
    | cons p ps => simp [PyData.eqv, PyData.eqvAll]
theorem getK_cons {κ : Type} [DecidableEq κ] (x : κ × D) (l : List (κ × D)) (k : κ) : getK (x :: l) k = if x.1 = k then some x.2 else getK l k := by
  unfold getK
  rw [List.find?_cons]
  by_cases h : x.1 = k <;> simp [h]
theorem getK_app {κ : Type} [DecidableEq κ] (l : List (κ × D)) (x : κ × D) (k : κ) (h : getK l x.1 = none) : getK (l ++ [x]) k = if k = x.1 then some x.2 else getK l k := by
  induction l with
  | nil => rw [List.nil_append, getK_cons]; by_cases e : x.1 = k
           · rw [if_pos e, if_pos e.symm]
           · rw [if_neg e, if_neg (fun z => e z.symm)]
  | cons y l ih =>
    rw [List.cons_append, getK_cons, getK_cons]
    rw [getK_cons] at h
    by_cases e : y.1 = x.1
    · rw [if_pos e] at h; cases h
    · rw [if_neg e] at h
      rw [ih h]
      by_cases e2 : y.1 = k
      · rw [if_pos e2, if_pos e2, if_neg (fun z => e (e2.trans z))]
      · rw [if_neg e2, if_neg e2]
theorem any_none {κ : Type} [DecidableEq κ] {l : List (κ × D)} {k : κ} (h : getK l k = none) : l.any (fun kv => decide (kv.1 = k)) = false := by
  induction l with
  | nil => rfl
  | cons y l ih =>
    rw [getK_cons] at h
    by_cases e : y.1 = k
    · rw [if_pos e] at h; cases h
    · rw [if_neg e] at h
      rw [List.any_cons, ih h]; simp [e]
theorem put_same {κ : Type} [DecidableEq κ] {l : List (κ × D)} {k : κ} {v : D} : ∀ k', getK (putKD l k v) k' = if k' = k then some v else getK l k' := by
  intro k'
  cases h : getK l k with
  | none =>
    unfold putKD
    rw [if_neg (by rw [any_none h]; exact Bool.false_ne_true)]
    exact getK_app l (k, v) k' h
  | some w =>
    have ha : l.any (fun kv => decide (kv.1 = k)) = true := by
      induction l with
      | nil => cases h
      | cons y l ih =>
        rw [getK_cons] at h
        rw [List.any_cons]
        by_cases e : y.1 = k
        · simp [e]
        · rw [if_neg e] at h
          rw [ih h]; simp
    unfold putKD
    rw [if_pos ha]
    clear ha
    induction l with
    | nil => cases h
    | cons y l ih =>
      rw [List.map_cons, getK_cons, getK_cons]
      rw [getK_cons] at h
      by_cases e : y.1 = k
      · rw [if_pos e]
        by_cases e2 : k' = k
        · rw [if_pos (by rw [e2]; exact e), if_pos e2]
        · have e3 : ¬ y.1 = k' := fun z => e2 (z.symm.trans e)
          rw [if_neg e3, if_neg e2, if_neg e3]
          clear ih h
          induction l with
          | nil => rfl
          | cons z l ih2 =>
            rw [List.map_cons, getK_cons, getK_cons, ih2]
            by_cases e4 : z.1 = k
            · have e5 : ¬ z.1 = k' := fun w => e2 (w.symm.trans e4)
              rw [if_pos e4, if_neg e5, if_neg e5]
            · rw [if_neg e4]
      · rw [if_neg e] at h
        rw [if_neg e, ih h]
        by_cases e2 : y.1 = k'
        · rw [if_pos e2, if_pos e2, if_neg (fun z => e (e2.trans z))]
        · rw [if_neg e2, if_neg e2]
theorem put_len {κ : Type} [DecidableEq κ] (l : List (κ × D)) (k : κ) (v : D) : (putKD l k v).length ≤ l.length + 1 := by
  unfold putKD
  split
  · simp
  · simp
theorem inD_dt (ss : List Str) (kvs : List (List Key × D)) : inD (.tup (ss.map .str)) (.dt kvs) = some (getK kvs (ss.map fun s => (Sum.inr s : Key))).isSome := by
  show (match tkeyD (.tup (ss.map .str)) with | some k => some (getK kvs k).isSome | none => none) = _
  rw [tkey_strs]
theorem idxD_dt (ss : List Str) (kvs : List (List Key × D)) : idxD (.dt kvs) (.tup (ss.map .str)) = getK kvs (ss.map fun s => (Sum.inr s : Key)) := by
  show (match tkeyD (.tup (ss.map .str)) with | some k => getK kvs k | none => none) = _
  rw [tkey_strs]
theorem Memo.put {f : Str → Rat} {ts : List (Str × Str)} {kvs : List (List Key × D)} {ss : List Str} (h : Memo f ts kvs) : Memo f ts (putKD kvs (ss.map fun s => (Sum.inr s : Key)) (frac (FS f ts ss))) := by
  intro us v e
  rw [put_same] at e
  by_cases hu : (us.map fun s => (Sum.inr s : Key)) = ss.map fun s => (Sum.inr s : Key)
  · rw [if_pos hu] at e
    cases e
    have : us = ss := (List.map_inj_right (fun a b h => Sum.inr.inj h)).mp hu
    rw [this]
  · rw [if_neg hu] at e
    exact h us v e
theorem put_keys {κ : Type} [DecidableEq κ] (l : List (κ × D)) (k : κ) (v : D) : (putKD l k v).map (·.1) = if k ∈ l.map (·.1) then l.map (·.1) else l.map (·.1) ++ [k] := by
  have e : (l.any fun kv => decide (kv.1 = k)) = true ↔ k ∈ l.map (·.1) := by
    rw [List.any_eq_true, List.mem_map]
    constructor
    · rintro ⟨x, hx, h⟩; exact ⟨x, hx, of_decide_eq_true h⟩
    · rintro ⟨x, hx, h⟩; exact ⟨x, hx, decide_eq_true h⟩
  unfold putKD
  by_cases h : k ∈ l.map (·.1)
  · rw [if_pos (e.mpr h), if_pos h, List.map_map]
    refine List.map_congr_left fun x _ => ?_
    show (if x.1 = k then (x.1, v) else x).1 = x.1
    split <;> rfl
  · rw [if_neg (fun z => h (e.mp z)), if_neg h, List.map_append]; rfl
theorem put_nd {κ : Type} [DecidableEq κ] {l : List (κ × D)} {k : κ} {v : D} (h : (l.map (·.1)).Nodup) : ((putKD l k v).map (·.1)).Nodup := by
  rw [put_keys]
  by_cases hk : k ∈ l.map (·.1)
  · rw [if_pos hk]; exact h
  · rw [if_neg hk]
    refine List.nodup_append.mpr ⟨h, List.pairwise_singleton _ _, fun a ha b hb e => ?_⟩
    have : b = k := by simpa using hb
    subst this
    subst e
    exact hk ha
theorem MemoOk.put {ns : List Str} {f : Str → Rat} {ts : List (Str × Str)} {kvs : List (List Key × D)} {ss : List Str} (h : MemoOk ns f ts kvs) (hs : ss.Sublist ns) : MemoOk ns f ts (putKD kvs (ss.map fun s => (Sum.inr s : Key)) (frac (FS f ts ss))) := by
  refine ⟨h.ok.put, put_nd h.nd, fun k hk => ?_⟩
  rw [put_keys] at hk
  split at hk
  · exact h.sub k hk
  · rcases List.mem_append.mp hk with hk | hk
    · exact h.sub k hk
    · have : k = ss.map fun s => (Sum.inr s : Key) := by simpa using hk
      exact ⟨ss, hs, this⟩
end Rf
end
section
namespace Rf
open PySem L2
theorem cut1 {α : Type} (x : α) (xs : List α) : cutD (x :: xs) (some 1) none = xs := by
  unfold cutD
  rw [show (some 1 : Option Int) = some ((1 : Nat) : Int) from rfl, HT.sIx_nat, HT.sIx_none]
  rw [show min 1 (x :: xs).length = 1 by simp, List.drop_one, List.tail_cons, List.take_of_length_le (by simp)]
theorem bb_le {m : Nat} (h : m ≤ 9) : bb m ≤ 3578 := Nat.le_trans (bb_mono h) (by decide)
def kyc (n : Str) (r : List Str) : List Key := (n :: r).map fun s => (Sum.inr s : Key)
theorem inD_dtc (n : Str) (r : List Str) (kvs : List (List Key × D)) : inD (.tup (.str n :: r.map .str)) (.dt kvs) = some (getK kvs (kyc n r)).isSome := inD_dt (n :: r) kvs
theorem idxD_dtc (n : Str) (r : List Str) (kvs : List (List Key × D)) : idxD (.dt kvs) (.tup (.str n :: r.map .str)) = getK kvs (kyc n r) := idxD_dt (n :: r) kvs
theorem sumover_ok {ft : FT} {m : Nat} (hm : m ≤ 10) (h0 : ∀ m', m = m' + 1 → Has ft "sum_over" (SumS m')) (ht : Has ft "times" (BinS (· * ·))) (hmn : Has ft "minus" (BinS (· - ·))) (d0 : ft.dfl "sum_over" = []) (d1 : ft.dfl "times" = []) (d2 : ft.dfl "minus" = []) (con : ft.con "ONE" = some (frac 1))
    (f1 : (ft.flds "System").contains "worths" = true) (f3 : (ft.flds "System").contains "beside" = true) : SumS m (runD ft 3 8 C.s_sum_over) := by
  intro ns f ls ts ss kvs Ω k H T hsub hl hk hM
  have hin : ∀ s ∈ ss, s ∈ ns := fun s hs => hsub.subset hs
  have hln := H.len
  suffices q : ∃ e Ω', runD ft 3 8 C.s_sum_over [sysD ns f ts, .tup (ss.map .str), .hd k] Ω = .ok e Ω' ∧ e = frac (FS f ts ss) ∧ ∃ kvs', Ω'[k]? = some (.dt kvs') ∧ MemoOk ns f ts kvs' ∧ Kq k Ω Ω' by
    obtain ⟨e, Ω', e1, rfl, kvs', q⟩ := q
    exact ⟨kvs', Ω', e1, q⟩
  refine run_of rfl ?_
  show SW (exL ft C.s_sum_over [some (sysD ns f ts), some (.tup (ss.map .str)), some (.hd k), none, none, none, none, none] Ω) _ _
  unfold C.s_sum_over
  have gd : ∀ x ∈ ss.map D.str, GD x := fun x hx => by obtain ⟨s, hs, rfl⟩ := List.mem_map.mp hx; exact GD_str (H.nm s (hin s hs))
  rw [SW_cons]
  simp_arith only [eqD_tnil gd]
  cases ss with
  | nil =>
    simp_arith only [List.map_nil, List.isEmpty_nil]
    rw [SW_cons]
    simp_arith only [con]
    exact ⟨by rw [FS], kvs, hk, hM, Kq.refl⟩
  | cons n r =>
    simp_arith only [List.map_cons, List.isEmpty_cons]
    rw [SW_nil, SW_cons]
    have lkS : ∀ Ω, lk Ω (sysD ns f ts) = sysD ns f ts := fun _ => rfl
    have lkH : ∀ Ω, lk Ω (shD ns f) = shD ns f := fun _ => rfl
    have cm : (D.str n :: r.map D.str) = (n :: r).map D.str := rfl
    simp_arith only [lk_ht Ω hk, inD_dtc]
    have hn : n ∈ ns := hin n (List.mem_cons_self ..)
    have shn := H.sh n hn
    /- the last row -/
    have last : ∀ (kvs' : List (List Key × D)) Ω' (ρ3 ρ4 ρ5 ρ6 ρ7 : Option D), Ω'[k]? = some (.dt kvs') → getK kvs' (kyc n r) = some (frac (FS f ts (n :: r))) → MemoOk ns f ts kvs' → Kq k Ω Ω' →
        SW (exL ft (SL.cons (S.ret (E.idx (E.var 2) (E.var 1))) SL.nil) [some (sysD ns f ts), some (.tup ((n :: r).map .str)), some (.hd k), ρ3, ρ4, ρ5, ρ6, ρ7] Ω') (fun _ Ω' => D.non = frac (FS f ts (n :: r)) ∧ ∃ kvs', Ω'[k]? = some (.dt kvs') ∧ MemoOk ns f ts kvs' ∧ Kq k Ω Ω') (fun e Ω' => e = frac (FS f ts (n :: r)) ∧ ∃ kvs', Ω'[k]? = some (.dt kvs') ∧ MemoOk ns f ts kvs' ∧ Kq k Ω Ω') := by
      intro kvs' Ω' ρ3 ρ4 ρ5 ρ6 ρ7 e1 e2 e3 e5
      rw [SW_cons]
      simp_arith only [lk_ht Ω' e1, idxD_dtc, e2]
      exact ⟨trivial, kvs', e1, e3, e5⟩
    cases hg : getK kvs (kyc n r) with
    | some v =>
      have ev := hM.ok (n :: r) v hg
      simp_arith only [Option.isSome_some]
      rw [SW_nil]
      exact last kvs Ω _ _ _ _ _ hk (by rw [hg, ev]) hM Kq.refl
    | none =>
      simp_arith only [Option.isSome_none]
      obtain ⟨m', rfl⟩ : ∃ m', m = m' + 1 := ⟨m - 1, by simp only [List.length_cons] at hl; omega⟩
      have hS := h0 m' rfl
      simp only [List.length_cons] at hl
      have hrs : r.Sublist ns := (List.sublist_cons_self n r).trans hsub
      have hfs : (far ts n r).Sublist ns := List.filter_sublist.trans hrs
      have hr : r.length ≤ m' := by omega
      rw [SW_cons]
      have i0 : idxD (.tup (.str n :: r.map .str)) (.int 0) = some (.str n) := by rw [idxD_tup]; exact atI0 _ _
      simp_arith only [i0, slc_t, cut1]
      rw [SW_cons]
      have fb : fldD ft.flds "beside" (sysD ns f ts) = some (.dk (ns.map fun n => ((Sum.inr n : Key), D.lst ((nb ts n).map .str)))) := by
        unfold sysD
        rw [fldD_in f3]
        unfold sysF
        rw [List.lookup_cons]
        have e1 : (("beside" : Str) == "worths") = false := by decide
        rw [e1]
        show List.lookup ("beside" : Str) _ = _
        rw [List.lookup_cons]
        have e2 : (("beside" : Str) == "ties") = false := by decide
        rw [e2]
        simp
      have fw : fldD ft.flds "worths" (sysD ns f ts) = some (shD ns f) := by
        unfold sysD
        rw [fldD_in f1]
        unfold sysF
        simp
      have ib : idxD (.dk (ns.map fun n => ((Sum.inr n : Key), D.lst ((nb ts n).map .str)))) (.str n) = some (.lst ((nb ts n).map .str)) := idx_dk (fun n => D.lst ((nb ts n).map .str)) hn
      have iw : idxD (shD ns f) (.str n) = some (frac (f n)) := idx_dk _ hn
      have itr : iterD (.tup (r.map .str)) = some (r.map .str) := rfl
      simp_arith only [itr]
      refine lc_pure (fun d => match d with | .str x => if x ∈ nb ts n then none else some (.str x) | _ => none) (by rw [List.length_map]; unfold big; omega) (fun y hy => ?_) ?_
      · obtain ⟨x, hx, rfl⟩ := List.mem_map.mp hy
        simp_arith only [lkS, fb, ib, inD_lst]
        by_cases hx2 : x ∈ nb ts n
        · simp_arith only [hx2, decide_true]
          exact ⟨trivial, trivial⟩
        · simp_arith only [hx2, decide_false]
          exact ⟨trivial, trivial⟩
      · have ef : ∀ us : List Str, (us.map D.str).filterMap (fun d => match d with | .str x => if x ∈ nb ts n then none else some (D.str x) | _ => none) = (far ts n us).map .str := fun us => by
          unfold far
          induction us with
          | nil => rfl
          | cons a us ih =>
            simp only [List.map_cons, List.filterMap_cons, List.filter_cons, ih]
            by_cases ha : a ∈ nb ts n <;> simp [ha]
        rw [ef]
        try simp_arith only []
        rw [SW_cons]
        simp_arith only [lkS, fw, lkH, iw, d0, d1]
        have hinr : ∀ s ∈ r, s ∈ ns := fun s hs => hin s (List.mem_cons_of_mem _ hs)
        have szr : sz (FS f ts r) (bb m') := sz_FS hr fun x hx => (H.sh x (hinr x hx)).2.2
        have szf : sz (FS f ts (far ts n r)) (bb m') := sz_FS (Nat.le_trans (far_len _ _ _) hr) fun x hx => (H.sh x (hinr x (far_mem hx))).2.2
        have bm : bb m' ≤ 3578 := bb_le (by omega)
        refine call_of hS fun g hg => ?_
        obtain ⟨kvs1, Ω1, e1, g1, g2, g4⟩ := hg ns f ls ts (far ts n r) kvs Ω k H T hfs (Nat.le_trans (far_len _ _ _) hr) hk hM
        refine ⟨_, _, e1, ?_⟩
        simp_arith only [lkS, fw, lkH, iw, d0, d1]
        refine call_of ht fun g hg => ⟨_, _, hg (f n) (FS f ts (far ts n r)) Ω1 5 (bb m') shn.2.2 szf (by omega), ?_⟩
        try simp_arith only []
        rw [SW_cons]
        simp_arith only [d0, d2]
        refine call_of hS fun g hg => ?_
        obtain ⟨kvs2, Ω2, e2, p1', p2', p4⟩ := hg ns f ls ts r kvs1 Ω1 k H T hrs hr g1 g2
        refine ⟨_, _, e2, ?_⟩
        simp_arith only [d0, d2]
        refine call_of hmn fun g hg => ⟨_, _, hg (FS f ts r) (f n * FS f ts (far ts n r)) Ω2 (bb m') (5 + bb m') szr (sz_mul shn.2.2 szf) (by omega), ?_⟩
        simp_arith only [d0, d2]
        have eF : FS f ts r - f n * FS f ts (far ts n r) = FS f ts (n :: r) := by rw [FS]
        have tk : tkeyD (.tup (.str n :: r.map .str)) = some (kyc n r) := tkey_strs (n :: r)
        simp_arith only [p1', tk, eF]
        have ml := p2'.len
        have pl : (2 : Nat) ^ ns.length ≤ 4096 := Nat.pow_le_pow_right (n := 2) (by decide) hln
        rw [if_pos (by show _ < 16777216; omega)]
        simp_arith only []
        rw [SW_nil]
        refine last (putKD kvs2 (kyc n r) (frac (FS f ts (n :: r)))) _ _ _ _ _ _ (set_get p1') (by rw [put_same, if_pos rfl]) (MemoOk.put p2' hsub) ⟨?_, fun i hi hik => ?_⟩
        · rw [List.length_set]; exact (g4.trans p4).len
        · rw [List.getElem?_set_ne (Ne.symm hik)]; exact (g4.trans p4).at_ i hi hik
end Rf
end
section
namespace Rf
open PySem L2
/-- the faults that are meant -/
def Meant (ns : List Str) (x : D) (us : List Str) : Prop := (x = .non ∧ us = ns) ∨ (∃ ss : List Str, (x = .lst (ss.map .str) ∨ x = .tup (ss.map .str)) ∧ ss.length < 64 ∧ (∀ s ∈ ss, s ∈ ns) ∧ us = sortS ss)
def AmongSetS (g : List D → Sto → R D) : Prop := ∀ (ns : List Str) (f : Str → Rat) (ls ts : List (Str × Str)) x us Ω, HouseOk ns f ls → Meant ns x us → g [sysD ns f ts, x] Ω = .ok (.tup (us.map .str)) Ω
theorem fld_w {ft : FT} (f1 : (ft.flds "System").contains "worths" = true) (ns : List Str) (f : Str → Rat) (ts : List (Str × Str)) : fldD ft.flds "worths" (sysD ns f ts) = some (shD ns f) := by
  unfold sysD
  rw [fldD_in f1]
  unfold sysF
  simp
theorem setamong_ok {ft : FT} (h : Has ft "checked_names" ChNamesS) (hd : ft.dfl "checked_names" = []) (f1 : (ft.flds "System").contains "worths" = true) (hi : ft.its "System" = some ("worths" : Str)) : AmongSetS (runD ft 2 2 C.s_set_among) := by
  intro ns f ls ts x us Ω H hx
  refine run_eq rfl ?_
  show SW (exL ft C.s_set_among [some (sysD ns f ts), some x] Ω) _ _
  unfold C.s_set_among
  have lkS : ∀ Ω, lk Ω (sysD ns f ts) = sysD ns f ts := fun _ => rfl
  rw [SW_cons]
  rcases hx with ⟨rfl, rfl⟩ | ⟨ss, hx, hl, hin, rfl⟩
  · have ei : instD ft.its "System" (sysD us f ts) = some (us.map .str) := by
      have this : (sysF us f ts).lookup ("worths" : Str) = some (shD us f) := by unfold sysF; simp
      simp only [sysD, instD, hi, if_true, this, shD, List.map_map]
      rfl
    simp_arith only [ei, lkS, fld_w f1, hd]
    have hlen := H.len
    refine call_of h fun g hg => ⟨_, _, hg (.lst (us.map .str)) us (shD us f) Ω rfl (by omega) (fun k hk => by cases hk) (fun s hs => in_dk _ hs), ?_⟩
    simp_arith only [ei, lkS, fld_w f1, hd]
    rw [sortS_asc_id H.asc]
    simp_arith only []
    exact ⟨trivial, trivial⟩
  · rcases hx with rfl | rfl
    · simp_arith only [lkS, fld_w f1, hd]
      refine call_of h fun g hg => ⟨_, _, hg (.lst (ss.map .str)) ss (shD ns f) Ω rfl hl (fun k hk => by cases hk) (fun s hs => in_dk _ (hin s hs)), ?_⟩
      simp_arith only []
      exact ⟨trivial, trivial⟩
    · simp_arith only [lkS, fld_w f1, hd]
      refine call_of h fun g hg => ⟨_, _, hg (.tup (ss.map .str)) ss (shD ns f) Ω rfl hl (fun k hk => by cases hk) (fun s hs => in_dk _ (hin s hs)), ?_⟩
      simp_arith only []
      exact ⟨trivial, trivial⟩
def FreeSumS (g : List D → Sto → R D) : Prop := ∀ (ns : List Str) (f : Str → Rat) (ls ts : List (Str × Str)) x us Ω, HouseOk ns f ls → ns.length ≤ 10 → TsOk ls ts → Meant ns x us → ∃ Ω', g [sysD ns f ts, x] Ω = .ok (frac (FS f ts us)) Ω' ∧ Gr Ω Ω'
theorem meant_in {ns : List Str} {x : D} {us : List Str} (h : Meant ns x us) : ∀ s ∈ us, s ∈ ns := by
  rcases h with ⟨_, rfl⟩ | ⟨ss, _, _, hin, rfl⟩
  · exact fun _ h => h
  · exact fun s hs => hin s (sortS_mem.mp hs)
theorem meant_asc {ns : List Str} {x : D} {us : List Str} (ha : Asc ns) (h : Meant ns x us) : Asc us := by
  rcases h with ⟨_, rfl⟩ | ⟨ss, _, _, hin, rfl⟩
  · exact ha
  · exact sortS_asc ss
theorem asc_sub_of {us ns : List Str} (h : Asc us) (h' : Asc ns) (e : ∀ x ∈ us, x ∈ ns) : us.Sublist ns := by
  have q : us = ns.filter fun x => decide (x ∈ us) := asc_ext h (List.Pairwise.sublist List.filter_sublist h') fun x => by
    rw [List.mem_filter, decide_eq_true_iff]
    exact ⟨fun hx => ⟨e x hx, hx⟩, fun hx => hx.2⟩
  rw [q]
  exact List.filter_sublist
theorem meant_sub {ns : List Str} {x : D} {us : List Str} (ha : Asc ns) (h : Meant ns x us) : us.Sublist ns := asc_sub_of (meant_asc ha h) ha (meant_in h)
theorem freesum_ok {ft : FT} (h : Has ft "set_among" AmongSetS) (h1 : Has ft "sum_over" (SumS 10)) (hd : ft.dfl "set_among" = []) (hd1 : ft.dfl "sum_over" = []) : FreeSumS (runD ft 2 2 C.s_free_sum) := by
  intro ns f ls ts x us Ω H hn T hx
  suffices q : ∃ e Ω', runD ft 2 2 C.s_free_sum [sysD ns f ts, x] Ω = .ok e Ω' ∧ e = frac (FS f ts us) ∧ Gr Ω Ω' by
    obtain ⟨e, Ω', e1, rfl, q⟩ := q
    exact ⟨Ω', e1, q⟩
  refine run_of rfl ?_
  show SW (exL ft C.s_free_sum [some (sysD ns f ts), some x] Ω) _ _
  unfold C.s_free_sum
  rw [SW_cons]
  simp_arith only [hd, hd1]
  refine call_of h fun g hg => ⟨_, _, hg ns f ls ts x us Ω H hx, ?_⟩
  simp_arith only [hd, hd1]
  have last : (Ω ++ [Ob.dt []])[Ω.length]? = some (.dt []) := by rw [List.getElem?_append_right (Nat.le_refl _), Nat.sub_self]; rfl
  have ul : us.length ≤ ns.length := len_of_sub (asc_nd (meant_asc H.asc hx)) (meant_in hx)
  have p10 : (2 : Nat) ^ us.length ≤ 2 ^ 10 := Nat.pow_le_pow_right (by decide) (by omega)
  refine call_of h1 fun g hg => ?_
  obtain ⟨kvs, Ω1, e1, g1, g2, g4⟩ := hg ns f ls ts us [] (Ω ++ [Ob.dt []]) Ω.length H T (meant_sub H.asc hx) (by omega) last MemoOk.nil
  refine ⟨_, _, e1, rfl, ⟨?_, fun i hi => ?_⟩⟩
  · have := g4.len; rw [List.length_append] at this; omega
  · exact (g4.at_ i (by rw [List.length_append]; omega) (by omega)).trans (List.getElem?_append_left hi)
end Rf
end
section
namespace Rf
open PySem L2
/-! ### all parts, in order -/
def tD (P : List Str) : D := .tup (P.map .str)
def ofSize (ss : List Str) (k : Nat) : List (List Str) := ((Fm.parts ss).filter fun P => decide (P.length = k)).mergeSort leSs
def lparts (ss : List Str) : List (List Str) := (List.range (ss.length + 1)).flatMap (ofSize ss)
theorem parts_sub {ss : List Str} : ∀ {P : List Str}, P ∈ Fm.parts ss → P.Sublist ss := by
  induction ss with
  | nil => intro P h; have h : P ∈ ([[]] : List (List Str)) := h; simp at h; subst h; exact List.Sublist.refl _
  | cons x l ih =>
    intro P h
    have h := (Fm.parts_cons x l).mem_iff.mp h
    rcases List.mem_append.mp h with h | h
    · exact (ih h).cons x
    · obtain ⟨Q, hQ, rfl⟩ := List.mem_map.mp h
      exact (ih hQ).cons_cons x
theorem parts_zero (ss : List Str) : ((Fm.parts ss).filter fun P => decide (P.length = 0)).length ≤ 1 := by
  induction ss with
  | nil => decide
  | cons x l ih =>
    rw [((Fm.parts_cons x l).filter _).length_eq, List.filter_append, List.length_append]
    have : ((Fm.parts l).map (x :: ·)).filter (fun P => decide (P.length = 0)) = [] := by
      rw [List.filter_eq_nil_iff]
      intro P hP
      obtain ⟨Q, _, rfl⟩ := List.mem_map.mp hP
      simp
    rw [this]
    simpa using ih
theorem strsD_tD (P : List Str) (r : List D) : strsD (tD P :: r) = none := rfl
theorem tupsD_tD (Ps : List (List Str)) : tupsD (Ps.map tD) = some Ps := by
  induction Ps with
  | nil => rfl
  | cons P Ps ih =>
    show (match strsD (P.map .str), tupsD (Ps.map tD) with | some s, some r => some (s :: r) | _, _ => none) = _
    rw [strsD_map, ih]
theorem sorted_tD {Ps : List (List Str)} (h : Ps.length ≤ 1 ∨ Ps.all (fun t => !t.isEmpty) = true) : biD .sorted [.lst (Ps.map tD)] = some (.lst ((Ps.mergeSort leSs).map tD)) := by
  cases Ps with
  | nil => simp [biD, strsD, List.mergeSort_nil]
  | cons P Ps =>
    have e : biD .sorted [.lst ((P :: Ps).map tD)] = (match tupsD ((P :: Ps).map tD) with
      | some ts => if ts.length ≤ 1 ∨ ts.all (fun t => !t.isEmpty) = true then some (.lst ((ts.mergeSort leSs).map fun t => .tup (t.map .str))) else none
      | none => none) := rfl
    rw [e, tupsD_tD]
    show (if _ then _ else _) = _
    rw [if_pos h]
    rfl
theorem grow_snoc (F : List (List Str)) (l : List Str) (x : Str) : Fm.grow F (l ++ [x]) = Fm.grow F l ++ (Fm.grow F l).map (· ++ [x]) := by
  induction l generalizing F with
  | nil => rfl
  | cons y l ih => rw [List.cons_append, Fm.grow, Fm.grow, ih]
theorem parts_snoc (l : List Str) (x : Str) : Fm.parts (l ++ [x]) = Fm.parts l ++ (Fm.parts l).map (· ++ [x]) := grow_snoc _ _ _
theorem fm_map {α : Type} (g : α → D) (h : D → Option D) (k : α → Option D) (xs : List α) (e : ∀ x ∈ xs, h (g x) = k x) : (xs.map g).filterMap h = xs.filterMap k := by
  induction xs with
  | nil => rfl
  | cons x xs ih => rw [List.map_cons, List.filterMap_cons, List.filterMap_cons, e x (List.mem_cons_self ..), ih fun y hy => e y (List.mem_cons_of_mem _ hy)]
/-- a comprehension that changes nothing, over things of a kind -/
theorem lc_map {α : Type} {Ω : Sto} {turn : D → Sto → R (Option D)} {Q : List D → Sto → Prop} (g : α → D) (k : α → Option D) {xs : List α} (hb : xs.length ≤ big) (e : ∀ x, x ∈ xs → RW (turn (g x) Ω) fun o Ω' => o = k x ∧ Ω' = Ω) (fin : Q (xs.filterMap k) Ω) : RW (lcD turn (xs.map g) [] Ω) Q := by
  have go : ∀ (xs : List α) (acc : List D), acc.length + xs.length ≤ big → (∀ x, x ∈ xs → RW (turn (g x) Ω) fun o Ω' => o = k x ∧ Ω' = Ω) → Q (acc ++ xs.filterMap k) Ω → RW (lcD turn (xs.map g) acc Ω) Q := by
    intro xs
    induction xs with
    | nil => intro acc _ _ fin; rw [List.filterMap_nil, List.append_nil] at fin; exact fin
    | cons x xs ih =>
      intro acc hb e fin
      rw [List.length_cons] at hb
      rw [List.map_cons, lcD, RW_bind, RW_nx]
      refine (e x (List.mem_cons_self ..)).mono fun o Ω' ho => ?_
      obtain ⟨rfl, rfl⟩ := ho
      have e' : ∀ y, y ∈ xs → RW (turn (g y) Ω') fun o Ω'' => o = k y ∧ Ω'' = Ω' := fun y hy => e y (List.mem_cons_of_mem _ hy)
      rw [List.filterMap_cons] at fin
      cases hk : k x with
      | none => rw [hk] at fin; exact ih acc (by omega) e' fin
      | some d =>
        rw [hk] at fin
        show RW (if acc.length < big then lcD turn (xs.map g) (acc ++ [d]) Ω' else .bad) Q
        rw [if_pos (by omega)]
        exact ih (acc ++ [d]) (by rw [List.length_append, List.length_singleton]; omega) e' (by rw [List.append_assoc]; exact fin)
  exact go xs [] (by simpa using hb) e fin
theorem fmSome {α β : Type} (h : α → β) (xs : List α) : xs.filterMap (fun x => some (h x)) = xs.map h := by induction xs <;> simp_all
theorem fmIf {α β : Type} (p : α → Bool) (h : α → β) (xs : List α) : xs.filterMap (fun x => if p x = true then some (h x) else none) = (xs.filter p).map h := by
  induction xs with
  | nil => rfl
  | cons x xs ih => rw [List.filterMap_cons, List.filter_cons, ih]; by_cases e : p x = true <;> simp [e]
theorem inR_nat {n : Nat} (h : n ≤ 1000000) : inR ((n : Int) + 1) = true := inR_mk (by omega) (by omega)
theorem rng_nat (n : Nat) : rngD 0 ((n : Int) + 1) = (List.range (n + 1)).map fun (k : Nat) => D.int (k : Int) := by
  unfold rngD
  rw [show ((n : Int) + 1 - 0).toNat = n + 1 by omega]
  refine List.map_congr_left fun k _ => ?_
  rw [Int.zero_add]
def PartsS (g : List D → Sto → R D) : Prop := ∀ (ss : List Str) Ω, ss.length ≤ 12 → ∃ Ω', g [.lst (ss.map .str)] Ω = .ok (.lst ((lparts ss).map tD)) Ω' ∧ Gr Ω Ω'
theorem lparts_size_le (ss : List Str) : ∀ k, ((List.range k).flatMap (ofSize ss)).length ≤ 2 ^ ss.length := by
  have cnt : ∀ k, ((List.range k).flatMap (ofSize ss)).length = ((Fm.parts ss).filter fun P => decide (P.length < k)).length := by
    intro k
    induction k with
    | zero =>
      have : (Fm.parts ss).filter (fun P => decide (P.length < 0)) = [] := List.filter_eq_nil_iff.mpr fun P _ => by simp
      rw [this]; rfl
    | succ k ih =>
      rw [List.range_succ, List.flatMap_append, List.length_append, ih]
      simp only [List.flatMap_cons, List.flatMap_nil, List.append_nil]
      unfold ofSize
      rw [List.length_mergeSort]
      generalize Fm.parts ss = A
      induction A with
      | nil => rfl
      | cons P A ih2 =>
        simp only [List.filter_cons]
        by_cases h1 : P.length < k
        · have h2 : ¬ P.length = k := by omega
          have h3 : P.length < k + 1 := by omega
          simp [h1, h2, h3]; omega
        · by_cases h2 : P.length = k
          · have h3 : P.length < k + 1 := by omega
            simp [h1, h2]; omega
          · have h3 : ¬ P.length < k + 1 := by omega
            simp [h1, h2, h3]; omega
  intro k
  rw [cnt, ← parts_len]
  exact List.length_filter_le _ _
theorem lawparts_rest {ft : FT} {ss : List Str} (hl : ss.length ≤ 12) (p12 : (2 : Nat) ^ ss.length ≤ 4096) (Ω : Sto) (z : Option D) : SW (exL ft (SL.drop 2 C.s__law_parts) [some (.lst (ss.map .str)), some (.lst ((Fm.parts ss).map tD)), z, none, none, none] Ω) (fun _ Ω2 => D.non = D.lst ((lparts ss).map tD) ∧ Gr Ω Ω2) (fun e Ω2 => e = D.lst ((lparts ss).map tD) ∧ Gr Ω Ω2) := by
  simp only [C.s__law_parts, SL.drop]
  rw [SW_cons]
  simp_arith only []
  rw [SW_cons]
  have rg : inR ((ss.length : Int) + 1) = true := inR_nat (by omega)
  simp_arith only [List.length_map, rg]
  have hL : (Ω ++ [Ob.lst []])[Ω.length]? = some (.lst []) := by rw [List.getElem?_append_right (Nat.le_refl _), Nat.sub_self]; rfl
  rw [rng_nat]
  refine for_of (fun i ρ Ω2 => (∃ z2 : Option D, ρ = [some (.lst (ss.map .str)), some (.lst ((Fm.parts ss).map tD)), z, some (.hd Ω.length), z2, none]) ∧ Ω2[Ω.length]? = some (.lst (((List.range i).flatMap (ofSize ss)).map tD)) ∧ Kq Ω.length (Ω ++ [Ob.lst []]) Ω2) ⟨⟨none, rfl⟩, hL, Kq.refl⟩ (fun i x ρ Ω2 hx hi => ?_) (fun ρ Ω2 hi => ?_)
  · obtain ⟨⟨z2, rfl⟩, hf, hk⟩ := hi
    rw [List.getElem?_map] at hx
    cases e : (List.range (ss.length + 1))[i]? with
    | none => rw [e] at hx; cases hx
    | some n =>
      rw [e] at hx
      cases hx
      have hn : n = i := by
        obtain ⟨hlt, h⟩ := List.getElem?_eq_some_iff.mp e
        rw [List.getElem_range] at h
        exact h.symm
      subst hn
      have itp : iterD (.lst ((Fm.parts ss).map tD)) = some ((Fm.parts ss).map tD) := rfl
      rw [SW_cons]
      simp_arith only [lk_hl Ω2 hf, itp]
      refine lc_map tD (fun P => if decide (P.length = n) = true then some (tD P) else none) (by rw [parts_len]; unfold big; omega) (fun P hP => ?_) ?_
      · unfold tD
        simp_arith only [List.length_map]
        by_cases hc : P.length = n
        · have hb : ((P.length : Int) == (n : Int)) = true := by rw [hc]; simp
          simp_arith only [hc, beq_self_eq_true, decide_true]
          exact ⟨trivial, trivial⟩
        · have hb : ((P.length : Int) == (n : Int)) = false := by
            rw [beq_eq_false_iff_ne]; omega
          simp_arith only [hb, hc, decide_false]
          exact ⟨trivial, trivial⟩
      · rw [fmIf]
        have sd := sorted_tD (Ps := (Fm.parts ss).filter fun P => decide (P.length = n)) (by
          by_cases h0 : n = 0
          · subst h0; exact .inl (parts_zero ss)
          · refine .inr (List.all_eq_true.mpr fun P hP => ?_)
            have := (List.mem_filter.mp hP).2
            have hz : P.length = n := of_decide_eq_true this
            cases P with
            | nil => simp at hz; omega
            | cons a P => rfl)
        have ol : ((List.range n).flatMap (ofSize ss)).length ≤ 4096 := Nat.le_trans (lparts_size_le ss n) p12
        have fl : ((Fm.parts ss).filter fun P => decide (P.length = n)).length ≤ 4096 := Nat.le_trans (List.length_filter_le _ _) (by rw [parts_len]; exact p12)
        simp_arith only [sd, hf]
        rw [if_pos (by rw [List.length_map, List.length_map, List.length_mergeSort]; unfold big; omega)]
        simp_arith only []
        rw [SW_nil]
        refine ⟨⟨_, rfl⟩, ?_, ⟨by rw [List.length_set]; exact hk.len, fun j hj hjk => ?_⟩⟩
        · rw [set_get hf, List.range_succ, List.flatMap_append]
          simp only [List.flatMap_cons, List.flatMap_nil, List.append_nil, List.map_append]
          rfl
        · rw [List.getElem?_set_ne (Ne.symm hjk)]; exact hk.at_ j hj hjk
  · obtain ⟨⟨z2, rfl⟩, hf, hk⟩ := hi
    rw [List.length_map, List.length_range] at hf
    rw [SW_cons]
    simp_arith only [hf]
    refine ⟨rfl, ⟨?_, fun j hj => ?_⟩⟩
    · rw [List.length_set]; have := hk.len; rw [List.length_append] at this; omega
    · rw [List.getElem?_set_ne (by omega)]
      exact (hk.at_ j (by rw [List.length_append]; omega) (by omega)).trans (List.getElem?_append_left hj)
theorem lawparts_ok {ft : FT} : PartsS (runD ft 1 6 C.s__law_parts) := by
  intro ss Ω hl
  suffices q : ∃ e Ω', runD ft 1 6 C.s__law_parts [.lst (ss.map .str)] Ω = .ok e Ω' ∧ e = .lst ((lparts ss).map tD) ∧ Gr Ω Ω' by
    obtain ⟨e, Ω', e1, rfl, q⟩ := q
    exact ⟨Ω', e1, q⟩
  have p12 : (2 : Nat) ^ ss.length ≤ 4096 := Nat.pow_le_pow_right (n := 2) (by decide) hl
  refine run_of rfl ?_
  show SW (exL ft C.s__law_parts [some (.lst (ss.map .str)), none, none, none, none, none] Ω) _ _
  have rest := lawparts_rest (ft := ft) hl p12 Ω
  simp only [C.s__law_parts, SL.drop] at rest
  unfold C.s__law_parts
  rw [SW_cons]
  simp_arith only []
  rw [SW_cons]
  have it : iterD (.lst (ss.map .str)) = some (ss.map .str) := rfl
  simp_arith only [it]
  refine for_of (fun i ρ Ω' => Ω' = Ω ∧ ∃ z, ρ = [some (.lst (ss.map .str)), some (.lst ((Fm.parts (ss.take i)).map tD)), z, none, none, none]) ⟨rfl, none, rfl⟩ (fun i x ρ Ω' hx hi => ?_) (fun ρ Ω' hi => ?_)
  · obtain ⟨rfl, z, rfl⟩ := hi
    rw [List.getElem?_map] at hx
    cases e : ss[i]? with
    | none => rw [e] at hx; cases hx
    | some n =>
      rw [e] at hx
      cases hx
      have hi : i < ss.length := (List.getElem?_eq_some_iff.mp e).1
      have pl : (Fm.parts (ss.take i)).length ≤ 4096 := by
        rw [parts_len, List.length_take]
        exact Nat.le_trans (Nat.pow_le_pow_right (by decide) (by omega)) p12
      have itp : iterD (.lst ((Fm.parts (ss.take i)).map tD)) = some ((Fm.parts (ss.take i)).map tD) := rfl
      rw [SW_cons]
      simp_arith only [itp]
      refine lc_map tD (fun P => some (tD (P ++ [n]))) (by unfold big; omega) (fun P hP => ?_) ?_
      · have sl : P.length ≤ 12 := by
          have := (parts_sub hP).length_le
          rw [List.length_take] at this
          omega
        unfold tD
        simp_arith only [addt]
        rw [if_pos (by rw [List.length_map]; show P.length + 1 ≤ 16777216; omega)]
        simp_arith only [List.map_append]
        exact ⟨trivial, trivial⟩
      · rw [fmSome]
        simp_arith only [addl]
        rw [if_pos (by rw [List.length_map, List.length_map]; show _ ≤ 16777216; omega)]
        simp_arith only []
        rw [SW_nil]
        refine ⟨rfl, some (.str n), ?_⟩
        rw [List.take_add_one, e, Option.toList_some, parts_snoc, List.map_append, List.map_map]
        rfl
  · obtain ⟨e1, z, e2⟩ := hi
    rw [List.length_map, List.take_length] at e2
    rw [e1, e2]
    exact rest z
end Rf
end
section
namespace Rf
open PySem L2
/-! ### the sum over all parts is the free sum -/
theorem filter_or {α : Type} (p q r : α → Bool) (h : ∀ x, r x = (p x || q x)) (d : ∀ x, ¬ (p x = true ∧ q x = true)) (A : List α) : (A.filter r).Perm (A.filter p ++ A.filter q) := by
  induction A with
  | nil => exact .refl _
  | cons x A ih =>
    simp only [List.filter_cons, h x]
    by_cases h1 : p x = true
    · have h2 : ¬ q x = true := fun z => d x ⟨h1, z⟩
      simp only [h1, h2, Bool.true_or, if_true, Bool.false_eq_true, if_false, List.cons_append]
      exact List.Perm.cons x ih
    · by_cases h2 : q x = true
      · simp only [h1, h2, Bool.or_true, if_true, Bool.false_eq_true, if_false]
        exact (List.Perm.cons x ih).trans List.perm_middle.symm
      · simp only [h1, h2, Bool.or_self, Bool.false_eq_true, if_false]
        exact ih
theorem lparts_perm (ss : List Str) : (lparts ss).Perm (Fm.parts ss) := by
  have cnt : ∀ k, ((List.range k).flatMap (ofSize ss)).Perm ((Fm.parts ss).filter fun P => decide (P.length < k)) := by
    intro k
    induction k with
    | zero =>
      have : (Fm.parts ss).filter (fun P => decide (P.length < 0)) = [] := List.filter_eq_nil_iff.mpr fun P _ => by simp
      rw [this]; exact .refl _
    | succ k ih =>
      rw [List.range_succ, List.flatMap_append]
      simp only [List.flatMap_cons, List.flatMap_nil, List.append_nil]
      refine (ih.append (List.mergeSort_perm _ _)).trans (filter_or _ _ _ (fun x => ?_) (fun x => ?_) _).symm
      · rw [Bool.eq_iff_iff]; simp; omega
      · simp; omega
  refine (cnt _).trans ?_
  have : (Fm.parts ss).filter (fun P => decide (P.length < ss.length + 1)) = Fm.parts ss := List.filter_eq_self.mpr fun P hP => decide_eq_true (by have := (parts_sub hP).length_le; omega)
  rw [this]
theorem lparts_sub {ss P : List Str} (h : P ∈ lparts ss) : P.Sublist ss := parts_sub ((lparts_perm ss).mem_iff.mp h)
theorem prod_fm : ∀ rs : List Rat, prod rs = Fm.prod rs
  | [] => rfl
  | r :: rs => by rw [prod, Fm.prod, prod_fm rs]
def lfree (ls : List (Str × Str)) (P : List Str) : Bool := !(ls.any fun p => decide (p.1 ∈ P) && decide (p.2 ∈ P))
def ltm (f : Str → Rat) (ls : List (Str × Str)) (P : List Str) : Rat := if lfree ls P = true then (if P.length % 2 = 0 then prod (P.map f) else - prod (P.map f)) else 0
def lsumA (f : Str → Rat) (ls : List (Str × Str)) (a : Rat) : List (List Str) → Rat
  | [] => a
  | P :: r => lsumA f ls (a + ltm f ls P) r
theorem lsumA_eq (f : Str → Rat) (ls : List (Str × Str)) (A : List (List Str)) : ∀ a, lsumA f ls a A = a + Fm.sumR (ltm f ls) A := by
  induction A with
  | nil => intro a; show a = a + 0; grind
  | cons P A ih => intro a; rw [lsumA, ih, Fm.sumR]; grind
def lsum (f : Str → Rat) (ls : List (Str × Str)) (ss : List Str) : Rat := lsumA f ls 0 (lparts ss)
theorem lsum_T (f : Str → Rat) (ls : List (Str × Str)) (ss : List Str) : lsum f ls ss = Fm.T (ltm f ls) ss := by
  unfold lsum
  rw [lsumA_eq, Fm.sumR_perm (lparts_perm ss), Fm.sumR_parts]
  grind
def adjS (ts : List (Str × Str)) (a b : Str) : Bool := decide (b ∈ nb ts a)
theorem FS_fs (f : Str → Rat) (ts : List (Str × Str)) : ∀ (k : Nat) (l : List Str), l.length ≤ k → FS f ts l = Fm.fs (adjS ts) f l
  | k, [], _ => by rw [FS, Fm.fs]
  | 0, n :: r, h => by simp at h
  | k + 1, n :: r, h => by
    have hr : r.length ≤ k := by simpa using h
    rw [FS, Fm.fs, FS_fs f ts k r hr, FS_fs f ts k (far ts n r) (Nat.le_trans (far_len _ _ _) hr)]
    rfl
theorem mem_nb {ts : List (Str × Str)} (h : ∀ p ∈ ts, p.1 ≠ p.2) {a b : Str} : b ∈ nb ts a ↔ ∃ p ∈ ts, (p.1 = a ∧ p.2 = b) ∨ (p.2 = a ∧ p.1 = b) := by
  unfold nb
  rw [sortS_mem]
  unfold others
  rw [List.mem_flatMap]
  constructor
  · rintro ⟨p, hp, hb⟩
    refine ⟨p, hp, ?_⟩
    by_cases ha : a = p.1 ∨ a = p.2
    · rw [if_pos ha] at hb
      simp only [List.mem_filter, List.mem_cons, List.not_mem_nil, or_false, Bool.not_eq_true', decide_eq_false_iff_not] at hb
      obtain ⟨hb1, hb2⟩ := hb
      rcases ha with rfl | rfl
      · rcases hb1 with rfl | rfl
        · exact absurd rfl hb2
        · exact .inl ⟨rfl, rfl⟩
      · rcases hb1 with rfl | rfl
        · exact .inr ⟨rfl, rfl⟩
        · exact absurd rfl hb2
    · rw [if_neg ha] at hb; cases hb
  · rintro ⟨p, hp, ⟨rfl, rfl⟩ | ⟨rfl, rfl⟩⟩
    · refine ⟨p, hp, ?_⟩
      rw [if_pos (.inl rfl)]
      simp only [List.mem_filter, List.mem_cons, List.not_mem_nil, or_false, Bool.not_eq_true', decide_eq_false_iff_not]
      exact ⟨by simp, fun e => h p hp e.symm⟩
    · refine ⟨p, hp, ?_⟩
      rw [if_pos (.inr rfl)]
      simp only [List.mem_filter, List.mem_cons, List.not_mem_nil, or_false, Bool.not_eq_true', decide_eq_false_iff_not]
      exact ⟨by simp, h p hp⟩
theorem adj_irr {ts : List (Str × Str)} (h : ∀ p ∈ ts, p.1 ≠ p.2) (a : Str) : adjS ts a a = false := by
  unfold adjS
  refine decide_eq_false fun hb => ?_
  obtain ⟨p, hp, ⟨h1, h2⟩ | ⟨h1, h2⟩⟩ := (mem_nb h).mp hb
  · exact h p hp (h1.trans h2.symm)
  · exact h p hp (h2.trans h1.symm)
theorem adj_sym {ts : List (Str × Str)} (h : ∀ p ∈ ts, p.1 ≠ p.2) (a b : Str) : adjS ts a b = adjS ts b a := by
  unfold adjS
  rw [Bool.eq_iff_iff, decide_eq_true_iff, decide_eq_true_iff, mem_nb h, mem_nb h]
  constructor
  · rintro ⟨p, hp, h | h⟩
    · exact ⟨p, hp, .inr ⟨h.2, h.1⟩⟩
    · exact ⟨p, hp, .inl ⟨h.2, h.1⟩⟩
  · rintro ⟨p, hp, h | h⟩
    · exact ⟨p, hp, .inr ⟨h.2, h.1⟩⟩
    · exact ⟨p, hp, .inl ⟨h.2, h.1⟩⟩
theorem free_eq {ls ts : List (Str × Str)} (h : ∀ p ∈ ts, p.1 ≠ p.2) (e : ∀ p, p ∈ ts ↔ p ∈ ls) (P : List Str) : Fm.free (adjS ts) P = lfree ls P := by
  rw [Bool.eq_iff_iff]
  unfold Fm.free lfree adjS
  simp only [List.all_eq_true, Bool.not_eq_true', decide_eq_false_iff_not, List.any_eq_false, Bool.and_eq_true, decide_eq_true_iff, mem_nb h]
  constructor
  · intro q p hp ⟨h1, h2⟩
    exact q p.1 h1 p.2 h2 ⟨p, (e p).mpr hp, .inl ⟨rfl, rfl⟩⟩
  · rintro q a ha b hb ⟨p, hp, ⟨rfl, rfl⟩ | ⟨rfl, rfl⟩⟩
    · exact q p ((e p).mp hp) ⟨ha, hb⟩
    · exact q p ((e p).mp hp) ⟨hb, ha⟩
theorem ts_ne {ns : List Str} {f : Str → Rat} {ls ts : List (Str × Str)} (H : HouseOk ns f ls) (T : TsOk ls ts) : ∀ p ∈ ts, p.1 ≠ p.2 := fun p hp => ltS_ne (H.lk p ((T.1 p).mp hp)).2.2
theorem lsum_FS {ns : List Str} {f : Str → Rat} {ls ts : List (Str × Str)} (H : HouseOk ns f ls) (T : TsOk ls ts) (ss : List Str) : lsum f ls ss = FS f ts ss := by
  rw [lsum_T, FS_fs f ts _ ss (Nat.le_refl _), Fm.fs_T (adj_irr (ts_ne H T)) (adj_sym (ts_ne H T)) _ ss (Nat.le_refl _)]
  congr 1
  funext P
  unfold ltm Fm.term
  rw [free_eq (ts_ne H T) T.1]
  unfold Fm.sgn
  rw [← prod_fm]
  by_cases h1 : lfree ls P = true <;> by_cases h2 : P.length % 2 = 0 <;> simp [h1, h2] <;> grind
/-! ### how great the sums get: one bottom for all -/
def Bd (D B : Nat) (r : Rat) : Prop := ∃ a : Int, r = Rat.divInt a D ∧ a.natAbs ≤ B
theorem Bd.add {D B C : Nat} {x y : Rat} (h0 : 0 < D) (h : Bd D B x) (h' : Bd D C y) : Bd D (B + C) (x + y) := by
  obtain ⟨a, rfl, ha⟩ := h
  obtain ⟨b, rfl, hb⟩ := h'
  have hD : (D : Int) ≠ 0 := by omega
  refine ⟨a + b, ?_, by omega⟩
  rw [Rat.divInt_add_divInt _ _ hD hD, ← Int.add_mul, Rat.divInt_mul_right hD]
theorem Bd.neg {D B : Nat} {x : Rat} (h : Bd D B x) : Bd D B (-x) := by
  obtain ⟨a, rfl, ha⟩ := h
  exact ⟨-a, by rw [Rat.neg_divInt], by omega⟩
theorem Bd.mono {D B C : Nat} {x : Rat} (h : Bd D B x) (hb : B ≤ C) : Bd D C x := by
  obtain ⟨a, e, ha⟩ := h
  exact ⟨a, e, by omega⟩
theorem Bd.zero {D : Nat} : Bd D 0 0 := ⟨0, by simp, by simp⟩
theorem Bd.sz {D B k : Nat} {x : Rat} (h : Bd D B x) (h0 : 0 < D) (h1 : D < 2 ^ k) (h2 : B < 2 ^ k) : sz x k := by
  obtain ⟨a, rfl, ha⟩ := h
  exact sz_divInt (by omega) (by omega) (by omega)
def dens (f : Str → Rat) : List Str → Nat
  | [] => 1
  | x :: l => (f x).den * dens f l
theorem dens_pos (f : Str → Rat) : ∀ l, 0 < dens f l
  | [] => Nat.one_pos
  | x :: l => Nat.mul_pos (f x).den_pos (dens_pos f l)
theorem dens_lt {f : Str → Rat} {k : Nat} : ∀ {l : List Str}, (∀ n ∈ l, sz (f n) k) → dens f l < 2 ^ (l.length * k + 1)
  | [], _ => by show 1 < 2 ^ (0 * k + 1); rw [Nat.zero_mul]; decide
  | x :: l, h => by
    have h1 := (h x (List.mem_cons_self ..)).2
    have h2 := dens_lt (l := l) fun n hn => h n (List.mem_cons_of_mem _ hn)
    have := nat_mul_lt h1 h2
    rw [dens]
    refine Nat.lt_of_lt_of_le this (Nat.pow_le_pow_right (by decide) ?_)
    rw [List.length_cons, Nat.add_mul]; omega
theorem rat_self (r : Rat) : r = Rat.divInt r.num (r.den : Int) := (Rat.num_divInt_den r).symm
theorem Bd.prod {f : Str → Rat} {P l : List Str} (h : P.Sublist l) (hs : ∀ n ∈ l, 0 ≤ (f n).num ∧ (f n).num ≤ (f n).den) : Bd (dens f l) (dens f l) (prod (P.map f)) := by
  induction h with
  | slnil => exact ⟨1, by show (1 : Rat) = Rat.divInt 1 ((1 : Nat) : Int); decide, Nat.le_refl 1⟩
  | @cons P l x _ ih =>
    obtain ⟨a, e, ha⟩ := ih fun n hn => hs n (List.mem_cons_of_mem _ hn)
    refine ⟨(f x).den * a, ?_, ?_⟩
    · rw [e, dens]
      have : ((f x).den : Int) ≠ 0 := by have := (f x).den_pos; omega
      push_cast
      rw [Rat.divInt_mul_left this]
    · rw [Int.natAbs_mul, dens]
      exact Nat.mul_le_mul (by simp) ha
  | @cons_cons P l x _ ih =>
    obtain ⟨a, e, ha⟩ := ih fun n hn => hs n (List.mem_cons_of_mem _ hn)
    obtain ⟨s1, s2⟩ := hs x (List.mem_cons_self ..)
    refine ⟨(f x).num * a, ?_, ?_⟩
    · rw [List.map_cons, Rf.prod, e, dens]
      have : (f x) = Rat.divInt (f x).num ((f x).den : Int) := rat_self _
      conv => lhs; rw [this]
      rw [Rat.divInt_mul_divInt]
      push_cast
      rfl
    · rw [Int.natAbs_mul, dens]
      exact Nat.mul_le_mul (by omega) ha
theorem Bd.lsumA {f : Str → Rat} {ls : List (Str × Str)} {l : List Str} (hs : ∀ n ∈ l, 0 ≤ (f n).num ∧ (f n).num ≤ (f n).den) : ∀ {A : List (List Str)} {a : Rat} {B : Nat}, (∀ P ∈ A, P.Sublist l) → Bd (dens f l) B a → Bd (dens f l) (B + A.length * dens f l) (lsumA f ls a A)
  | [], a, B, _, h => h.mono (by omega)
  | P :: A, a, B, hA, h => by
    rw [Rf.lsumA]
    have hp : Bd (dens f l) (dens f l) (ltm f ls P) := by
      have := Bd.prod (hA P (List.mem_cons_self ..)) hs
      unfold ltm
      split
      · split
        · exact this
        · exact this.neg
      · exact Bd.zero.mono (Nat.zero_le _)
    refine (Bd.lsumA hs (fun Q hQ => hA Q (List.mem_cons_of_mem _ hQ)) (h.add (dens_pos f l) hp)).mono ?_
    rw [List.length_cons, Nat.add_mul]; omega
end Rf
end
section
namespace Rf
open PySem L2
def IsFreeS (g : List D → Sto → R D) : Prop := ∀ (ls : List (Str × Str)) (P : List Str) Ω, ls.length ≤ 1000 → g [.lst (ls.map pr), tD P] Ω = .ok (.bl (lfree ls P)) Ω
theorem boolsD_map {α : Type} (h : α → Bool) (xs : List α) : boolsD (xs.map fun x => .bl (h x)) = some (xs.map h) := by
  induction xs with
  | nil => rfl
  | cons x xs ih => show (boolsD (xs.map fun x => .bl (h x))).map (h x :: ·) = _; rw [ih]; rfl
theorem inD_tD (x : Str) (P : List Str) : inD (.str x) (tD P) = some (decide (x ∈ P)) := inD_tup x P
theorem lk_tD (Ω : Sto) (P : List Str) : lk Ω (tD P) = tD P := rfl
theorem isfree_ok {ft : FT} : IsFreeS (runD ft 2 4 C.s__law_is_free) := by
  intro ls P Ω hl
  refine run_eq rfl ?_
  show SW (exL ft C.s__law_is_free [some (.lst (ls.map pr)), some (tD P), none, none] Ω) _ _
  unfold C.s__law_is_free
  rw [SW_cons]
  have it : iterD (.lst (ls.map pr)) = some (ls.map pr) := rfl
  simp_arith only [it]
  refine lc_map pr (fun p => some (.bl (decide (p.1 ∈ P) && decide (p.2 ∈ P)))) (by unfold big; omega) (fun p hp => ?_) ?_
  · unfold pr
    simp_arith only [lk_tD, inD_tD]
    by_cases h1 : p.1 ∈ P
    · simp_arith only [h1, decide_true, lk_tD, inD_tD, Bool.true_and]
      exact ⟨trivial, trivial⟩
    · simp_arith only [h1, decide_false, Bool.false_and]
      exact ⟨trivial, trivial⟩
  · rw [fmSome]
    simp_arith only [anyl, boolsD_map]
    refine ⟨?_, trivial⟩
    unfold lfree
    rw [List.any_map]
    rfl
def FreeSumL (g : List D → Sto → R D) : Prop := ∀ (ns : List Str) (f : Str → Rat) (ls : List (Str × Str)) (ss : List Str) x Ω, HouseOk ns f ls → (∀ s ∈ ss, s ∈ ns) → ss.length ≤ 10 → (x = .lst (ss.map .str) ∨ x = tD ss) → ∃ Ω', g [shD ns f, .lst (ls.map pr), x] Ω = .ok (frac (lsum f ls ss)) Ω' ∧ Gr Ω Ω'
theorem lsumA_snoc (f : Str → Rat) (ls : List (Str × Str)) (a : Rat) (A : List (List Str)) (P : List Str) : lsumA f ls a (A ++ [P]) = lsumA f ls a A + ltm f ls P := by
  rw [lsumA_eq, lsumA_eq, Fm.sumR_append]
  show _ + (_ + (ltm f ls P + 0)) = _
  grind
theorem sz_part {f : Str → Rat} {ls : List (Str × Str)} {ss : List Str} {A : List (List Str)} (hl : ss.length ≤ 10) (hs : ∀ n ∈ ss, ShareOk (f n)) (hA : ∀ P ∈ A, P.Sublist ss) (hn : A.length ≤ 2 ^ 10) : sz (lsumA f ls 0 A) 62 := by
  have h1 : dens f ss < 2 ^ 51 := Nat.lt_of_lt_of_le (dens_lt fun n hn => (hs n hn).2.2) (Nat.pow_le_pow_right (by decide) (by omega))
  have h2 := Bd.lsumA (ls := ls) (fun n hn => ⟨(hs n hn).1, (hs n hn).2.1⟩) hA (Bd.zero (D := dens f ss))
  refine h2.sz (dens_pos f ss) (Nat.lt_trans h1 (by decide)) ?_
  have : A.length * dens f ss ≤ 2 ^ 10 * dens f ss := Nat.mul_le_mul_right _ hn
  omega
theorem freesumL_ok {ft : FT} (hp : Has ft "_law_parts" PartsS) (hf : Has ft "_law_is_free" IsFreeS) (hpr : Has ft "_law_product" ProdS) (hpl : Has ft "_law_plus" (BinS (· + ·))) (hmi : Has ft "_law_minus" (BinS (· - ·)))
    (d1 : ft.dfl "_law_parts" = []) (d2 : ft.dfl "_law_is_free" = []) (d3 : ft.dfl "_law_product" = []) (d4 : ft.dfl "_law_plus" = []) (d5 : ft.dfl "_law_minus" = []) : FreeSumL (runD ft 3 7 C.s__law_free_sum) := by
  intro ns f ls ss x Ω H hin hl hx
  suffices q : ∃ e Ω', runD ft 3 7 C.s__law_free_sum [shD ns f, .lst (ls.map pr), x] Ω = .ok e Ω' ∧ e = frac (lsum f ls ss) ∧ Gr Ω Ω' by
    obtain ⟨e, Ω', e1, rfl, q⟩ := q
    exact ⟨Ω', e1, q⟩
  refine run_of rfl ?_
  show SW (exL ft C.s__law_free_sum [some (shD ns f), some (.lst (ls.map pr)), some x, none, none, none, none] Ω) _ _
  unfold C.s__law_free_sum
  rw [SW_cons]
  simp_arith only []
  rw [SW_cons]
  have lx : lk Ω x = x := by rcases hx with rfl | rfl <;> rfl
  have bx : biD .list [x] = some (.lst (ss.map .str)) := by rcases hx with rfl | rfl <;> rfl
  have lkH : ∀ Ω, lk Ω (shD ns f) = shD ns f := fun _ => rfl
  have hll := H.ll
  simp_arith only [lx, bx, d1]
  refine call_of hp fun g hg => ?_
  obtain ⟨Ω1, e1, g1⟩ := hg ss Ω (by omega)
  refine ⟨_, _, e1, ?_⟩
  simp_arith only [lx, bx, d1]
  have it : iterD (.lst ((lparts ss).map tD)) = some ((lparts ss).map tD) := rfl
  simp_arith only [it]
  have ln : (lparts ss).length ≤ 2 ^ 10 := by
    rw [(lparts_perm ss).length_eq, parts_len]; exact Nat.pow_le_pow_right (by decide) hl
  have sok : ∀ n ∈ ss, ShareOk (f n) := fun n hn => H.sh n (hin n hn)
  refine for_of (fun i ρ Ω' => Ω' = Ω1 ∧ ∃ z4 z5, ρ = [some (shD ns f), some (.lst (ls.map pr)), some x, some (frac (lsumA f ls 0 ((lparts ss).take i))), z4, z5, none]) ⟨rfl, none, none, rfl⟩ (fun i y ρ Ω' hy hi => ?_) (fun ρ Ω' hi => ?_)
  · obtain ⟨rfl, z4, z5, rfl⟩ := hi
    rw [List.getElem?_map] at hy
    cases e : (lparts ss)[i]? with
    | none => rw [e] at hy; cases hy
    | some P =>
      rw [e] at hy
      have hy : tD P = y := Option.some.inj hy
      subst hy
      have Pm : P ∈ lparts ss := List.mem_of_getElem? e
      have Ps := lparts_sub Pm
      have Pl : P.length ≤ 10 := Nat.le_trans Ps.length_le hl
      have tk : (lparts ss).take (i + 1) = (lparts ss).take i ++ [P] := by rw [List.take_add_one, e]; rfl
      have s1 : sz (lsumA f ls 0 ((lparts ss).take i)) 62 := sz_part hl sok (fun Q hQ => lparts_sub (List.mem_of_mem_take hQ)) (Nat.le_trans (by rw [List.length_take]; omega) ln)
      rw [SW_cons]
      simp_arith only [d2]
      refine call_of hf fun g hg => ⟨_, _, hg ls P Ω' (by omega), ?_⟩
      simp_arith only [d2]
      by_cases hfr : lfree ls P = true
      · simp_arith only [hfr]
        rw [SW_cons]
        have itP : iterD (tD P) = some (P.map .str) := rfl
        simp_arith only [itP, d3]
        refine lc_map D.str (fun n => some (frac (f n))) (by unfold big; omega) (fun n hn => ?_) ?_
        · have ix : idxD (shD ns f) (.str n) = some (frac (f n)) := idx_dk _ (hin n (Ps.subset hn))
          simp_arith only [lkH, ix]
          exact ⟨trivial, trivial⟩
        · have em : P.map (fun n => frac (f n)) = (P.map f).map frac := by rw [List.map_map]; rfl
          rw [fmSome, em]
          have s2 : ∀ r ∈ P.map f, sz r 5 := fun r hr => by
            obtain ⟨n, hn, rfl⟩ := List.mem_map.mp hr
            exact (sok n (Ps.subset hn)).2.2
          try simp_arith only []
          refine call_of hpr fun g hg => ⟨_, _, hg (P.map f) 5 Ω' s2 (by rw [List.length_map]; omega) (by decide), ?_⟩
          simp_arith only []
          have s3 : sz (prod (P.map f)) 62 := (sz_prod s2).mono (by rw [List.length_map]; omega)
          have lt : biD .len [tD P] = some (.int (P.length : Int)) := by unfold tD; rw [lent, List.length_map]
          have md : op2D .Mod (.int (P.length : Int)) (.int 2) = some (.int ((P.length : Int) % 2)) := mod_pos (by decide)
          try simp_arith only []
          rw [SW_cons]
          simp_arith only [lk_tD, lt, md, d4, d5]
          by_cases h2 : P.length % 2 = 0
          · have hb : ((P.length : Int) % 2 == 0) = true := by rw [beq_iff_eq]; omega
            simp_arith only [hb]
            refine call_of hpl fun g hg => ⟨_, _, hg _ _ Ω' 62 62 s1 s3 (by decide), ?_⟩
            simp_arith only []
            rw [SW_nil, SW_nil]
            have ev : lsumA f ls 0 ((lparts ss).take i) + prod (P.map f) = lsumA f ls 0 ((lparts ss).take (i + 1)) := by
              rw [tk, lsumA_snoc]
              unfold ltm
              rw [if_pos hfr, if_pos h2]
            rw [ev]
            exact ⟨rfl, _, _, rfl⟩
          · have hb : ((P.length : Int) % 2 == 0) = false := by rw [beq_eq_false_iff_ne]; omega
            simp_arith only [hb]
            refine call_of hmi fun g hg => ⟨_, _, hg _ _ Ω' 62 62 s1 s3 (by decide), ?_⟩
            simp_arith only []
            rw [SW_nil, SW_nil]
            have ev : lsumA f ls 0 ((lparts ss).take i) - prod (P.map f) = lsumA f ls 0 ((lparts ss).take (i + 1)) := by
              rw [tk, lsumA_snoc]
              unfold ltm
              rw [if_pos hfr, if_neg h2, Rat.sub_eq_add_neg]
            rw [ev]
            exact ⟨rfl, _, _, rfl⟩
      · have hfr' : lfree ls P = false := by simpa using hfr
        simp_arith only [hfr']
        rw [SW_nil, SW_nil]
        have ev : lsumA f ls 0 ((lparts ss).take i) = lsumA f ls 0 ((lparts ss).take (i + 1)) := by
          rw [tk, lsumA_snoc]
          unfold ltm
          rw [if_neg hfr, Rat.add_zero]
        rw [ev]
        exact ⟨rfl, _, _, rfl⟩
  · obtain ⟨rfl, z4, z5, rfl⟩ := hi
    rw [List.length_map, List.take_length, SW_cons]
    simp_arith only []
    exact ⟨rfl, g1⟩
end Rf
end
section
namespace Rf
open PySem L2
/-! ### the law's own look whether two things are the same: a thing is the same as itself -/
def SmD : Nat → D → Prop
  | _, .int _ => True
  | _, .bl _ => True
  | _, .non => True
  | _, .str s => GD (.str s)
  | n + 1, .tup xs => xs.length ≤ 100000 ∧ ∀ x ∈ xs, SmD n x
  | n + 1, .lst xs => xs.length ≤ 100000 ∧ ∀ x ∈ xs, SmD n x
  | n + 1, .dk kvs => kvs.length ≤ 100000 ∧ (kvs.map (·.1)).Nodup ∧ ∀ kv ∈ kvs, SmD n kv.2
  | _, _ => False
def SameS (n : Nat) (g : List D → Sto → R D) : Prop := ∀ d Ω, SmD n d → g [d, d] Ω = .ok (.bl true) Ω
theorem SmD.succ : ∀ {n : Nat} {d : D}, SmD n d → SmD (n + 1) d
  | n, .int _, h => trivial
  | n, .bl _, h => trivial
  | n, .non, h => trivial
  | n, .str _, h => by cases n <;> exact h
  | n + 1, .tup xs, h => ⟨h.1, fun x hx => SmD.succ (h.2 x hx)⟩
  | n + 1, .lst xs, h => ⟨h.1, fun x hx => SmD.succ (h.2 x hx)⟩
  | n + 1, .dk kvs, h => ⟨h.1, h.2.1, fun x hx => SmD.succ (h.2.2 x hx)⟩
  | 0, .tup _, h => False.elim h
  | 0, .lst _, h => False.elim h
  | 0, .dk _, h => False.elim h
  | 0, .dt _, h => False.elim h
  | 0, .ins _ _, h => False.elim h
  | 0, .hd _, h => False.elim h
  | 0, .scr _, h => False.elim h
  | 0, .e0, h => False.elim h
  | n + 1, .dt _, h => False.elim h
  | n + 1, .ins _ _, h => False.elim h
  | n + 1, .hd _, h => False.elim h
  | n + 1, .scr _, h => False.elim h
  | n + 1, .e0, h => False.elim h
theorem SmD.frac (n : Nat) (r : Rat) : SmD (n + 1) (frac r) := by
  unfold Rf.frac
  refine ⟨by simp, fun x hx => ?_⟩
  simp only [List.mem_cons, List.not_mem_nil, or_false] at hx
  rcases hx with rfl | rfl <;> (cases n <;> trivial)
theorem eqD_bl (a b : Bool) : eqD (.bl a) (.bl b) = some (a == b) := by cases a <;> cases b <;> decide
theorem eqD_non : eqD .non .non = some true := by decide
theorem eqD_self_str {s : Str} (h : GD (.str s)) : eqD (.str s) (.str s) = some true := by
  obtain ⟨p, e1, e2, e3⟩ := h
  cases e1
  have s1 : SeqAt.shaped (.str s) = true := by
    unfold SeqAt.shaped
    rw [Bool.and_eq_true]
    exact ⟨e2, decide_eq_true (by omega)⟩
  unfold eqD
  have e : toPy (.str s) = some (.str s) := rfl
  simp only [e, s1, and_self, if_true]
  simp [PyData.eqv]
theorem zip_self_l (xs : List D) : zipD2 (.lst xs) (.lst xs) = some (xs.map fun x => .tup [x, x]) := by
  show some (List.zipWith (fun x y => D.tup [x, y]) xs xs) = _
  rw [List.zipWith_self]
theorem zip_self_t (xs : List D) : zipD2 (.tup xs) (.tup xs) = some (xs.map fun x => .tup [x, x]) := by
  show some (List.zipWith (fun x y => D.tup [x, y]) xs xs) = _
  rw [List.zipWith_self]
theorem all_const {α : Type} (xs : List α) : boolsD (xs.map fun _ => .bl true) = some (xs.map fun _ => true) := boolsD_map (fun _ => true) xs
theorem all_const2 {α : Type} (xs : List α) : (xs.map fun _ => true).all id = true := by induction xs <;> simp_all
theorem getK_mem {κ : Type} [DecidableEq κ] {kvs : List (κ × D)} (nd : (kvs.map (·.1)).Nodup) {kv : κ × D} (h : kv ∈ kvs) : getK kvs kv.1 = some kv.2 := by
  induction kvs with
  | nil => cases h
  | cons x l ih =>
    rw [getK_cons]
    rw [List.map_cons, List.nodup_cons] at nd
    rcases List.mem_cons.mp h with rfl | h
    · rw [if_pos rfl]
    · rw [if_neg, ih nd.2 h]
      intro e
      exact nd.1 (e ▸ List.mem_map.mpr ⟨kv, h, rfl⟩)
theorem keyD_kD (k : Key) : keyD (kD k) = some k := by cases k <;> rfl
theorem same_ok {ft : FT} {n : Nat} (h0 : ∀ m, n = m + 1 → Has ft "_law_same" (SameS m)) (hd : ft.dfl "_law_same" = []) : SameS n (runD ft 2 6 C.s__law_same) := by
  intro d Ω hS
  refine run_eq rfl ?_
  show SW (exL ft C.s__law_same [some d, some d, none, none, none, none] Ω) _ _
  unfold C.s__law_same
  rw [SW_cons]
  cases d with
  | int i =>
    have t1 : isTys ft.cls (.int i) [.dict] = some false := rfl
    have t2 : isTys ft.cls (.int i) [.list, .tuple] = some false := rfl
    have t3 : isTys ft.cls (.int i) [.int] = some true := rfl
    have t4 : isTys ft.cls (.int i) [.bool] = some false := rfl
    simp_arith only [t1]
    rw [SW_nil, SW_cons]
    simp_arith only [t2]
    rw [SW_nil, SW_cons]
    simp_arith only [t3]
    rw [SW_cons]
    simp_arith only [t4, eqD_bl]
    rw [SW_cons]
    simp_arith only [t3, beq_self_eq_true]
    exact ⟨trivial, trivial⟩
  | bl i =>
    have t1 : isTys ft.cls (.bl i) [.dict] = some false := rfl
    have t2 : isTys ft.cls (.bl i) [.list, .tuple] = some false := rfl
    have t3 : isTys ft.cls (.bl i) [.int] = some true := rfl
    have t4 : isTys ft.cls (.bl i) [.bool] = some true := rfl
    simp_arith only [t1]
    rw [SW_nil, SW_cons]
    simp_arith only [t2]
    rw [SW_nil, SW_cons]
    simp_arith only [t3]
    rw [SW_cons]
    simp_arith only [t4, eqD_bl]
    rw [SW_cons]
    simp_arith only [t3, eqD_bl, beq_self_eq_true]
    exact ⟨trivial, trivial⟩
  | non =>
    have t1 : isTys ft.cls .non [.dict] = some false := rfl
    have t2 : isTys ft.cls .non [.list, .tuple] = some false := rfl
    have t3 : isTys ft.cls .non [.int] = some false := rfl
    have t4 : isTys ft.cls .non [.int, .list, .tuple, .dict] = some false := rfl
    simp_arith only [t1]
    rw [SW_nil, SW_cons]
    simp_arith only [t2]
    rw [SW_nil, SW_cons]
    simp_arith only [t3]
    rw [SW_nil, SW_cons]
    simp_arith only [t4, eqD_non]
    exact ⟨trivial, trivial⟩
  | str s =>
    have hS : GD (.str s) := by cases n <;> exact hS
    have t1 : isTys ft.cls (.str s) [.dict] = some false := rfl
    have t2 : isTys ft.cls (.str s) [.list, .tuple] = some false := rfl
    have t3 : isTys ft.cls (.str s) [.int] = some false := rfl
    have t4 : isTys ft.cls (.str s) [.int, .list, .tuple, .dict] = some false := rfl
    simp_arith only [t1]
    rw [SW_nil, SW_cons]
    simp_arith only [t2]
    rw [SW_nil, SW_cons]
    simp_arith only [t3]
    rw [SW_nil, SW_cons]
    simp_arith only [t4, eqD_self_str hS]
    exact ⟨trivial, trivial⟩
  | tup xs =>
    cases n with
    | zero => exact False.elim hS
    | succ n =>
      obtain ⟨hl, hx⟩ := hS
      have t1 : isTys ft.cls (.tup xs) [.dict] = some false := rfl
      have t2 : isTys ft.cls (.tup xs) [.list, .tuple] = some true := rfl
      have t3 : isTys ft.cls (.tup xs) [.list] = some false := rfl
      have t4 : isTys ft.cls (.tup xs) [.tuple] = some true := rfl
      simp_arith only [t1]
      rw [SW_nil, SW_cons]
      simp_arith only [t2]
      rw [SW_cons]
      simp_arith only [t3, eqD_bl, beq_self_eq_true]
      rw [SW_nil, SW_cons]
      simp_arith only [t4, eqD_bl, beq_self_eq_true]
      rw [SW_nil, SW_cons]
      simp_arith only [beq_self_eq_true, zip_self_t, hd]
      refine lc_map (fun x => D.tup [x, x]) (fun _ => some (.bl true)) (by unfold big; omega) (fun x hx' => ?_) ?_
      · simp_arith only []
        exact call_of (h0 n rfl) fun g hg => ⟨_, _, hg x Ω (hx x hx'), rfl, rfl⟩
      · rw [fmSome]
        simp_arith only [alll, all_const, all_const2]
        exact ⟨trivial, trivial⟩
  | lst xs =>
    cases n with
    | zero => exact False.elim hS
    | succ n =>
      obtain ⟨hl, hx⟩ := hS
      have t1 : isTys ft.cls (.lst xs) [.dict] = some false := rfl
      have t2 : isTys ft.cls (.lst xs) [.list, .tuple] = some true := rfl
      have t3 : isTys ft.cls (.lst xs) [.list] = some true := rfl
      have t4 : isTys ft.cls (.lst xs) [.tuple] = some false := rfl
      simp_arith only [t1]
      rw [SW_nil, SW_cons]
      simp_arith only [t2]
      rw [SW_cons]
      simp_arith only [t3, eqD_bl, beq_self_eq_true]
      rw [SW_nil, SW_cons]
      simp_arith only [t4, eqD_bl, beq_self_eq_true]
      rw [SW_nil, SW_cons]
      simp_arith only [beq_self_eq_true, zip_self_l, hd]
      refine lc_map (fun x => D.tup [x, x]) (fun _ => some (.bl true)) (by unfold big; omega) (fun x hx' => ?_) ?_
      · simp_arith only []
        exact call_of (h0 n rfl) fun g hg => ⟨_, _, hg x Ω (hx x hx'), rfl, rfl⟩
      · rw [fmSome]
        simp_arith only [alll, all_const, all_const2]
        exact ⟨trivial, trivial⟩
  | dk kvs =>
    cases n with
    | zero => exact False.elim hS
    | succ n =>
      obtain ⟨hl, hnd, hx⟩ := hS
      have t1 : isTys ft.cls (.dk kvs) [.dict] = some true := rfl
      simp_arith only [t1]
      rw [SW_cons]
      simp_arith only [t1, beq_self_eq_true]
      rw [SW_nil, SW_cons]
      have it : iterD (.dk kvs) = some (kvs.map fun kv => kD kv.1) := rfl
      simp_arith only [it, hd]
      refine lc_map (fun kv : Key × D => kD kv.1) (fun _ => some (.bl true)) (by unfold big; omega) (fun kv hkv => ?_) ?_
      · have e1 : inD (kD kv.1) (.dk kvs) = some true := by
          show (match keyD (kD kv.1) with | some k => some (getK kvs k).isSome | none => none) = _
          rw [keyD_kD]
          simp only [getK_mem hnd hkv]
          rfl
        have e2 : idxD (.dk kvs) (kD kv.1) = some kv.2 := by
          show (match keyD (kD kv.1) with | some k => getK kvs k | none => none) = _
          rw [keyD_kD]
          exact getK_mem hnd hkv
        have lkk : lk Ω (kD kv.1) = kD kv.1 := by cases kv.1 <;> rfl
        simp_arith only [lkk, e1, e2]
        exact call_of (h0 n rfl) fun g hg => ⟨_, _, hg kv.2 Ω (hx kv hkv), rfl, rfl⟩
      · rw [fmSome]
        simp_arith only [alll, all_const, all_const2]
        exact ⟨trivial, trivial⟩
  | e0 => cases n <;> exact False.elim hS
  | scr _ => cases n <;> exact False.elim hS
  | dt _ => cases n <;> exact False.elim hS
  | ins _ _ => cases n <;> exact False.elim hS
  | hd _ => cases n <;> exact False.elim hS
end Rf
end
section
namespace Rf
open PySem L2
theorem Law.has {L : Law} {q : Str} {df : Df} (hf : L.find q = some df) {k : Nat} {S : (List D → Sto → R D) → Prop} (h : ∀ d, k ≤ d → S (runD (L.ft d) df.ps.length df.N.length df.sl)) : ∀ d, k + 1 ≤ d → Has (L.ft d) q S
  | 0, hd => by omega
  | d + 1, hd => ⟨L.g (d + 1) df, L.fn_eq (d + 1) hf, h d (by omega)⟩
end Rf
end
section
namespace Rf
open PySem L2
/-! ### sets in order -/
def ofLen (As : List (List Str)) (k : Int) : List (List Str) := (As.filter fun P => decide ((P.length : Int) = k)).mergeSort leSs
def ordP (As : List (List Str)) : List (List Str) := ((once (As.map fun P => (P.length : Int))).mergeSort leI).flatMap (ofLen As)
def OrdS (g : List D → Sto → R D) : Prop := ∀ (As : List (List Str)) Ω, As.length < 4000 → (∀ P ∈ As, P.length ≤ 20) → (As.filter fun P => decide (P.length = 0)).length ≤ 1 → ∃ Ω', g [.lst (As.map tD)] Ω = .ok (.lst ((ordP As).map tD)) Ω' ∧ Gr Ω Ω'
theorem intsD_map {α : Type} (h : α → Int) (xs : List α) : intsD (xs.map fun x => .int (h x)) = some (xs.map h) := by
  induction xs with
  | nil => rfl
  | cons x xs ih => show (intsD (xs.map fun x => .int (h x))).map (h x :: ·) = _; rw [ih]; rfl
theorem sset_ints {ns : List Int} (h1 : ns.length < 4000) (h2 : (once ns).length < 64) : ssetD (.lst (ns.map .int)) = some (.lst (((once ns).mergeSort leI).map .int)) := by
  cases ns with
  | nil => simp [ssetD, strsD, once]
  | cons n ns =>
    show (match strsD ((n :: ns).map .int) with | some ss => if ss.length < 64 then some (D.lst (((once ss).mergeSort leS).map .str)) else none | none => match intsD ((n :: ns).map .int) with | some ns => if ns.length < 4000 ∧ (once ns).length < 64 then some (.lst (((once ns).mergeSort leI).map .int)) else none | none => _) = _
    have e1 : strsD ((n :: ns).map D.int) = none := rfl
    have e2 : intsD ((n :: ns).map D.int) = some (n :: ns) := by simpa using intsD_map (fun i : Int => i) (n :: ns)
    rw [e1, e2]
    show (if _ then _ else _) = _
    rw [if_pos ⟨h1, h2⟩]
theorem flen (As : List (List Str)) : ∀ ks : List Int, ks.Nodup → (ks.flatMap (ofLen As)).length ≤ As.length := by
  intro ks nd
  have cnt : ∀ (ks : List Int), ks.Nodup → (ks.flatMap (ofLen As)).length = (As.filter fun P => decide ((P.length : Int) ∈ ks)).length := by
    intro ks
    induction ks with
    | nil =>
      intro _
      have : As.filter (fun P => decide ((P.length : Int) ∈ ([] : List Int))) = [] := List.filter_eq_nil_iff.mpr fun P _ => by simp
      rw [this]; rfl
    | cons k ks ih =>
      intro nd
      obtain ⟨n1, n2⟩ := List.nodup_cons.mp nd
      rw [List.flatMap_cons, List.length_append, ih n2]
      unfold ofLen
      rw [List.length_mergeSort, ← List.length_append]
      refine (List.Perm.length_eq (filter_or _ _ _ (fun P => ?_) (fun P => ?_) As)).symm
      · rw [Bool.eq_iff_iff]; simp
      · simp only [decide_eq_true_eq]
        rintro ⟨h1, h2⟩
        exact n1 (h1 ▸ h2)
  rw [cnt ks nd]
  exact List.length_filter_le _ _
theorem once_small {ns : List Int} {m : Nat} (h : ∀ n ∈ ns, 0 ≤ n ∧ n ≤ m) : (once ns).length ≤ m + 1 := by
  have h2 : ∀ n ∈ once ns, n ∈ (List.range (m + 1)).map fun (k : Nat) => (k : Int) := fun n hn => by
    obtain ⟨h1, h3⟩ := h n ((once_mem ns n).mp hn)
    exact List.mem_map.mpr ⟨n.toNat, List.mem_range.mpr (by omega), by omega⟩
  have := len_of_sub (once_nodup ns) h2
  simpa using this
theorem ord_ok {ft : FT} : OrdS (runD ft 1 4 C.s_ordered) := by
  intro As Ω hl h20 h0
  suffices q : ∃ e Ω', runD ft 1 4 C.s_ordered [.lst (As.map tD)] Ω = .ok e Ω' ∧ e = .lst ((ordP As).map tD) ∧ Gr Ω Ω' by
    obtain ⟨e, Ω', e1, rfl, q⟩ := q
    exact ⟨Ω', e1, q⟩
  refine run_of rfl ?_
  show SW (exL ft C.s_ordered [some (.lst (As.map tD)), none, none, none] Ω) _ _
  unfold C.s_ordered
  rw [SW_cons]
  simp_arith only []
  rw [SW_cons]
  have it : iterD (.lst (As.map tD)) = some (As.map tD) := rfl
  have hL : (Ω ++ [Ob.lst []])[Ω.length]? = some (.lst []) := by rw [List.getElem?_append_right (Nat.le_refl _), Nat.sub_self]; rfl
  have lt : ∀ P : List Str, biD .len [tD P] = some (.int (P.length : Int)) := fun P => by unfold tD; rw [lent, List.length_map]
  simp_arith only [it]
  refine lc_map tD (fun P => some (.int (P.length : Int))) (by show _ ≤ 16777216; omega) (fun P hP => ?_) ?_
  · simp_arith only [lk_tD, lt]
    exact ⟨trivial, trivial⟩
  · rw [fmSome]
    have eo : (once (As.map fun P => (P.length : Int))).length < 64 := by
      have := once_small (ns := As.map fun P => (P.length : Int)) (m := 20) fun n hn => by
        obtain ⟨P, hP, rfl⟩ := List.mem_map.mp hn
        have := h20 P hP
        omega
      omega
    have es := sset_ints (ns := As.map fun P => (P.length : Int)) (by rw [List.length_map]; exact hl) eo
    rw [List.map_map] at es
    have es : ssetD (.lst (As.map fun P => D.int (P.length : Int))) = some (.lst (((once (As.map fun P => (P.length : Int))).mergeSort leI).map .int)) := es
    simp_arith only [es]
    have nd : ((once (As.map fun P => (P.length : Int))).mergeSort leI).Nodup := (List.mergeSort_perm _ _).nodup_iff.mpr (once_nodup _)
    generalize hK : (once (As.map fun P => (P.length : Int))).mergeSort leI = ks at *
    have itk : iterD (.lst (ks.map .int)) = some (ks.map .int) := rfl
    simp_arith only [itk]
    refine for_of (fun i ρ Ω2 => (∃ z2 : Option D, ρ = [some (.lst (As.map tD)), some (.hd Ω.length), z2, none]) ∧ Ω2[Ω.length]? = some (.lst (((ks.take i).flatMap (ofLen As)).map tD)) ∧ Kq Ω.length (Ω ++ [Ob.lst []]) Ω2) ⟨⟨none, rfl⟩, hL, Kq.refl⟩ (fun i x ρ Ω2 hx hi => ?_) (fun ρ Ω2 hi => ?_)
    · obtain ⟨⟨z2, rfl⟩, hf, hk⟩ := hi
      rw [List.getElem?_map] at hx
      cases e : ks[i]? with
      | none => rw [e] at hx; cases hx
      | some n =>
        rw [e] at hx
        cases hx
        rw [SW_cons]
        simp_arith only [lk_hl Ω2 hf, it]
        refine lc_map tD (fun P => if decide ((P.length : Int) = n) = true then some (tD P) else none) (by show _ ≤ 16777216; omega) (fun P hP => ?_) ?_
        · simp_arith only [lk_tD, lt]
          by_cases hc : (P.length : Int) = n
          · simp_arith only [hc, beq_self_eq_true, decide_true]
            exact ⟨trivial, trivial⟩
          · have hb : ((P.length : Int) == n) = false := by rw [beq_eq_false_iff_ne]; exact hc
            simp_arith only [hb, hc, decide_false]
            exact ⟨trivial, trivial⟩
        · rw [fmIf]
          have sd := sorted_tD (Ps := As.filter fun P => decide ((P.length : Int) = n)) (by
            by_cases hz : n = 0
            · subst hz
              refine .inl (Nat.le_trans (Nat.le_of_eq ?_) h0)
              congr 1
              refine List.filter_congr fun P _ => ?_
              rw [Bool.eq_iff_iff]
              simp
            · refine .inr (List.all_eq_true.mpr fun P hP => ?_)
              have := (List.mem_filter.mp hP).2
              have hz2 : (P.length : Int) = n := of_decide_eq_true this
              cases P with
              | nil => simp at hz2; omega
              | cons a P => rfl)
          have ol : ((ks.take i).flatMap (ofLen As)).length ≤ 4000 := Nat.le_trans (flen As _ (List.Nodup.sublist (List.take_sublist _ _) nd)) (by omega)
          have fl : (As.filter fun P => decide ((P.length : Int) = n)).length ≤ 4000 := Nat.le_trans (List.length_filter_le _ _) (by omega)
          simp_arith only [sd, hf]
          rw [if_pos (by rw [List.length_map, List.length_map, List.length_mergeSort]; show _ ≤ 16777216; omega)]
          simp_arith only []
          rw [SW_nil]
          refine ⟨⟨_, rfl⟩, ?_, ⟨by rw [List.length_set]; exact hk.len, fun j hj hjk => ?_⟩⟩
          · rw [set_get hf, List.take_add_one, e, Option.toList_some, List.flatMap_append]
            simp only [List.flatMap_cons, List.flatMap_nil, List.append_nil, List.map_append]
            rfl
          · rw [List.getElem?_set_ne (Ne.symm hjk)]; exact hk.at_ j hj hjk
    · obtain ⟨⟨z2, rfl⟩, hf, hk⟩ := hi
      rw [List.length_map, List.take_length] at hf
      rw [SW_cons]
      simp_arith only [hf]
      refine ⟨by unfold ordP; rw [hK], ⟨?_, fun j hj => ?_⟩⟩
      · rw [List.length_set]; have := hk.len; rw [List.length_append] at this; omega
      · rw [List.getElem?_set_ne (by omega)]
        exact (hk.at_ j (by rw [List.length_append]; omega) (by omega)).trans (List.getElem?_append_left hj)
/-- the parts of a list are in order as the law has them -/
theorem ordP_parts (ss : List Str) : ordP (Fm.parts ss) = lparts ss := by
  have e : (once ((Fm.parts ss).map fun P => (P.length : Int))).mergeSort leI = (List.range (ss.length + 1)).map fun (k : Nat) => (k : Int) := by
    refine (sortI_eq ?_ fun k => ?_).symm
    · exact List.pairwise_map.mpr (List.pairwise_lt_range.imp fun h => by omega)
    · rw [List.mem_map, List.mem_map]
      constructor
      · rintro ⟨n, hn, rfl⟩
        have := List.mem_range.mp hn
        exact ⟨ss.take n, sub_parts (List.take_sublist _ _), by rw [List.length_take]; omega⟩
      · rintro ⟨P, hP, rfl⟩
        exact ⟨P.length, List.mem_range.mpr (by have := (parts_sub hP).length_le; omega), rfl⟩
  unfold ordP lparts
  rw [e, List.flatMap_map]
  congr 1
  funext k
  unfold ofLen ofSize
  congr 1
  refine List.filter_congr fun P _ => ?_
  rw [Bool.eq_iff_iff, decide_eq_true_iff, decide_eq_true_iff]
  omega
def PartsOfS (g : List D → Sto → R D) : Prop := ∀ (x : D) (ss : List Str) Ω, (x = .lst (ss.map .str) ∨ x = tD ss) → ss.length ≤ 11 → ∃ Ω', g [x] Ω = .ok (.lst ((lparts ss).map tD)) Ω' ∧ Gr Ω Ω'
theorem partsof_ok {ft : FT} (h : Has ft "ordered" OrdS) (hd : ft.dfl "ordered" = []) : PartsOfS (runD ft 1 4 C.s_parts_of) := by
  intro x ss Ω hx hl
  suffices q : ∃ e Ω', runD ft 1 4 C.s_parts_of [x] Ω = .ok e Ω' ∧ e = .lst ((lparts ss).map tD) ∧ Gr Ω Ω' by
    obtain ⟨e, Ω', e1, rfl, q⟩ := q
    exact ⟨Ω', e1, q⟩
  have p12 : (2 : Nat) ^ ss.length ≤ 2048 := Nat.pow_le_pow_right (n := 2) (by decide) hl
  refine run_of rfl ?_
  show SW (exL ft C.s_parts_of [some x, none, none, none] Ω) _ _
  unfold C.s_parts_of
  rw [SW_cons]
  simp_arith only []
  rw [SW_cons]
  have it : iterD x = some (ss.map .str) := by rcases hx with rfl | rfl <;> rfl
  simp_arith only [it]
  refine for_of (fun i ρ Ω' => Ω' = Ω ∧ ∃ z, ρ = [some x, some (.lst ((Fm.parts (ss.take i)).map tD)), z, none]) ⟨rfl, none, rfl⟩ (fun i y ρ Ω' hy hi => ?_) (fun ρ Ω' hi => ?_)
  · obtain ⟨rfl, z, rfl⟩ := hi
    rw [List.getElem?_map] at hy
    cases e : ss[i]? with
    | none => rw [e] at hy; cases hy
    | some n =>
      rw [e] at hy
      cases hy
      have hi : i < ss.length := (List.getElem?_eq_some_iff.mp e).1
      have pl : (Fm.parts (ss.take i)).length ≤ 2048 := by
        rw [parts_len, List.length_take]
        exact Nat.le_trans (Nat.pow_le_pow_right (by decide) (by omega)) p12
      have itp : iterD (.lst ((Fm.parts (ss.take i)).map tD)) = some ((Fm.parts (ss.take i)).map tD) := rfl
      rw [SW_cons]
      simp_arith only [itp]
      refine lc_map tD (fun P => some (tD (P ++ [n]))) (by show _ ≤ 16777216; omega) (fun P hP => ?_) ?_
      · have sl : P.length ≤ 12 := by
          have := (parts_sub hP).length_le
          rw [List.length_take] at this
          omega
        unfold tD
        simp_arith only [addt]
        rw [if_pos (by rw [List.length_map]; show P.length + 1 ≤ 16777216; omega)]
        simp_arith only [List.map_append]
        exact ⟨by simp, trivial⟩
      · rw [fmSome]
        simp_arith only [addl]
        rw [if_pos (by rw [List.length_map, List.length_map]; show _ ≤ 16777216; omega)]
        simp_arith only []
        rw [SW_nil]
        refine ⟨rfl, some (.str n), ?_⟩
        rw [List.take_add_one, e, Option.toList_some, parts_snoc, List.map_append, List.map_map]
        rfl
  · obtain ⟨e1, z, e2⟩ := hi
    rw [List.length_map, List.take_length] at e2
    rw [e1, e2, SW_cons]
    simp_arith only [hd]
    refine call_of h fun g hg => ?_
    obtain ⟨Ω2, e3, g3⟩ := hg (Fm.parts ss) Ω (by rw [parts_len]; omega) (fun P hP => by have := (parts_sub hP).length_le; omega) (parts_zero ss)
    refine ⟨_, _, e3, ?_⟩
    simp_arith only []
    exact ⟨by rw [ordP_parts], g3⟩
end Rf
end
section
namespace Rf
open PySem L2
theorem rat_pos (r : Rat) : 0 < r ↔ 0 < r.num := by
  rw [Rat.lt_iff]
  simp
def LessS (g : List D → Sto → R D) : Prop := ∀ x y Ω k l, sz x k → sz y l → k + l ≤ 8990 → g [frac x, frac y] Ω = .ok (.bl (decide (x < y))) Ω
theorem less_of {ft : FT} {body : SL} (eb : body = C.s_is_less) : LessS (runD ft 2 2 body) := by
  subst eb
  intro x y Ω k l hx hy hk
  refine run_eq rfl ?_
  show SW (exL ft C.s_is_less [some (frac x), some (frac y)] Ω) _ _
  unfold C.s_is_less frac
  rw [SW_cons]
  simp_arith only [sz_nd hx hy hk, sz_nd hy hx (by omega)]
  refine ⟨?_, trivial⟩
  congr 1
  rw [Bool.eq_iff_iff, decide_eq_true_iff, decide_eq_true_iff]
  exact (Rat.lt_iff x y).symm
theorem less_ok {ft : FT} : LessS (runD ft 2 2 C.s_is_less) := less_of rfl
/-! ### comprehensions and loops that let the store grow -/
theorem lc_gr {α : Type} {Ω : Sto} {turn : D → Sto → R (Option D)} {Q : List D → Sto → Prop} (g : α → D) (k : α → Option D) {xs : List α} (hb : xs.length ≤ big) (e : ∀ x, x ∈ xs → ∀ Ω1, Gr Ω Ω1 → RW (turn (g x) Ω1) fun o Ω2 => o = k x ∧ Gr Ω1 Ω2)
    (fin : ∀ Ω1, Gr Ω Ω1 → Q (xs.filterMap k) Ω1) : RW (lcD turn (xs.map g) [] Ω) Q := by
  refine lc_of (fun i acc Ω' => acc = (xs.take i).filterMap k ∧ Gr Ω Ω') (by rw [List.length_map]; exact hb) ⟨by simp, Gr.refl⟩ (fun i y acc Ω1 hy hi => ?_) (fun acc Ω1 hi => ?_)
  · obtain ⟨rfl, h1⟩ := hi
    rw [List.getElem?_map] at hy
    cases e1 : xs[i]? with
    | none => rw [e1] at hy; cases hy
    | some x =>
      rw [e1] at hy
      have hy : g x = y := Option.some.inj hy
      subst hy
      refine (e x (List.mem_of_getElem? e1) Ω1 h1).mono fun o Ω2 ho => ?_
      obtain ⟨rfl, h2⟩ := ho
      refine ⟨?_, h1.trans h2⟩
      rw [List.take_add_one, e1, List.filterMap_append]
      cases e2 : k x with
      | none => simp [e2]
      | some d => simp [e2]
  · obtain ⟨rfl, h1⟩ := hi
    rw [List.length_map, List.take_length]
    exact fin Ω1 h1
/-! ### the first part that is not safe -/
def fu (f : Str → Rat) (ts : List (Str × Str)) (ss : List Str) : Option (List Str) := (lparts ss).find? fun P => !decide (0 < FS f ts P)
def LC (f : Str → Rat) (ts : List (Str × Str)) (ss : List Str) : Rat := if (fu f ts ss).isNone then FS f ts ss else 0
theorem fu_none {f : Str → Rat} {ts : List (Str × Str)} {ss : List Str} : (fu f ts ss).isNone = true ↔ ∀ P, P.Sublist ss → 0 < FS f ts P := by
  unfold fu
  rw [Option.isNone_iff_eq_none, List.find?_eq_none]
  constructor
  · intro h P hP
    have := h P ((lparts_perm ss).mem_iff.mpr (sub_parts hP))
    simpa using this
  · intro h P hP
    have := h P (lparts_sub hP)
    simpa using this
theorem find_at {α : Type} {p : α → Bool} {l : List α} {i : Nat} {x : α} (h : l[i]? = some x) (hx : p x = true) (ha : ∀ y ∈ l.take i, p y = false) : l.find? p = some x := by
  rw [List.find?_eq_some_iff_append]
  refine ⟨hx, l.take i, l.drop (i + 1), ?_, fun a h => by rw [ha a h]; rfl⟩
  have hi := (List.getElem?_eq_some_iff.mp h).1
  have e : l[i] = x := by rw [List.getElem?_eq_getElem hi] at h; exact Option.some.inj h
  rw [← e, List.getElem_cons_drop, List.take_append_drop]
def nonOr (o : Option (List Str)) : D := match o with
  | some P => tD P
  | none => .non
def FirstS (g : List D → Sto → R D) : Prop := ∀ (ns : List Str) (f : Str → Rat) (ls ts : List (Str × Str)) (ss : List Str) x Ω, HouseOk ns f ls → ns.length ≤ 10 → TsOk ls ts → ss.Sublist ns → (x = .lst (ss.map .str) ∨ x = tD ss) → ∃ Ω', g [sysD ns f ts, x] Ω = .ok (nonOr (fu f ts ss)) Ω' ∧ Gr Ω Ω'
theorem sz_fs {ns : List Str} {f : Str → Rat} {ls ts : List (Str × Str)} {P : List Str} (H : HouseOk ns f ls) (hn : ns.length ≤ 10) (hP : P.Sublist ns) : sz (FS f ts P) 7162 :=
  (sz_FS (m := 10) (Nat.le_trans hP.length_le hn) fun x hx => (H.sh x (hP.subset hx)).2.2).mono (by decide)
theorem first_ok {ft : FT} (h : Has ft "parts_of" PartsOfS) (h1 : Has ft "sum_over" (SumS 10)) (h2 : Has ft "is_less" LessS) (d0 : ft.dfl "parts_of" = []) (d1 : ft.dfl "sum_over" = []) (d2 : ft.dfl "is_less" = []) (con : ft.con "ZERO" = some (frac 0)) : FirstS (runD ft 2 4 C.s_first_unsafe) := by
  intro ns f ls ts ss x Ω H hn T hs hx
  suffices q : ∃ e Ω', runD ft 2 4 C.s_first_unsafe [sysD ns f ts, x] Ω = .ok e Ω' ∧ e = nonOr (fu f ts ss) ∧ Gr Ω Ω' by
    obtain ⟨e, Ω', e1, rfl, q⟩ := q
    exact ⟨Ω', e1, q⟩
  have hsl : ss.length ≤ 10 := Nat.le_trans hs.length_le hn
  refine run_of rfl ?_
  show SW (exL ft C.s_first_unsafe [some (sysD ns f ts), some x, none, none] Ω) _ _
  unfold C.s_first_unsafe
  rw [SW_cons]
  simp_arith only []
  have hL : (Ω ++ [Ob.dt []])[Ω.length]? = some (.dt []) := by rw [List.getElem?_append_right (Nat.le_refl _), Nat.sub_self]; rfl
  rw [SW_cons]
  simp_arith only [d0]
  refine call_of h fun g hg => ?_
  obtain ⟨Ω1, e1, g1⟩ := hg x ss (Ω ++ [Ob.dt []]) hx (by omega)
  refine ⟨_, _, e1, ?_⟩
  have hL1 : Ω1[Ω.length]? = some (.dt []) := (g1.at_ _ (by rw [List.length_append]; simp)).trans hL
  have gO : ∀ Ω2, Kq Ω.length Ω1 Ω2 → Gr Ω Ω2 := fun Ω2 hk => by
    have l1 := g1.len
    rw [List.length_append] at l1
    refine ⟨by have := hk.len; omega, fun i hi => ?_⟩
    rw [hk.at_ i (by omega) (by omega), g1.at_ i (by rw [List.length_append]; omega)]
    exact List.getElem?_append_left hi
  have it : iterD (.lst ((lparts ss).map tD)) = some ((lparts ss).map tD) := rfl
  simp_arith only [it]
  refine for_of (fun i ρ Ω2 => (∃ z, ρ = [some (sysD ns f ts), some x, some (.hd Ω.length), z]) ∧ (∃ kvs, Ω2[Ω.length]? = some (.dt kvs) ∧ MemoOk ns f ts kvs) ∧ Kq Ω.length Ω1 Ω2 ∧ ∀ P ∈ (lparts ss).take i, 0 < FS f ts P) ⟨⟨none, rfl⟩, ⟨[], hL1, MemoOk.nil⟩, Kq.refl, by simp⟩ (fun i y ρ Ω2 hy hi => ?_) (fun ρ Ω2 hi => ?_)
  · obtain ⟨⟨z, rfl⟩, ⟨kvs, hf, hM⟩, hk, ha⟩ := hi
    rw [List.getElem?_map] at hy
    cases e : (lparts ss)[i]? with
    | none => rw [e] at hy; cases hy
    | some P =>
      rw [e] at hy
      have hy : tD P = y := Option.some.inj hy
      subst hy
      have Ps : P.Sublist ns := (lparts_sub (List.mem_of_getElem? e)).trans hs
      rw [SW_cons]
      simp_arith only [con, d1, d2]
      refine call_of h1 fun g hg => ?_
      obtain ⟨kvs', Ω3, e3, f3, M3, k3⟩ := hg ns f ls ts P kvs Ω2 Ω.length H T Ps (Nat.le_trans Ps.length_le hn) hf hM
      refine ⟨_, _, e3, ?_⟩
      simp_arith only [d2]
      refine call_of h2 fun g hg => ⟨_, _, hg 0 (FS f ts P) Ω3 1 7162 sz_zero (sz_fs H hn Ps) (by decide), ?_⟩
      by_cases hp : 0 < FS f ts P
      · simp_arith only [hp, decide_true]
        rw [SW_nil, SW_nil]
        refine ⟨⟨_, rfl⟩, ⟨kvs', f3, M3⟩, hk.trans k3, fun Q hQ => ?_⟩
        rw [List.take_add_one, e] at hQ
        rcases List.mem_append.mp hQ with h | h
        · exact ha Q h
        · have : Q = P := by simpa using h
          rw [this]; exact hp
      · simp_arith only [hp, decide_false]
        rw [SW_cons]
        simp_arith only []
        refine ⟨?_, gO _ (hk.trans k3)⟩
        have : fu f ts ss = some P := find_at e (by simpa using hp) fun Q hQ => by simpa using ha Q hQ
        rw [this]; rfl
  · obtain ⟨⟨z, rfl⟩, ⟨kvs, hf, hM⟩, hk, ha⟩ := hi
    rw [List.length_map, List.take_length] at ha
    rw [SW_cons]
    simp_arith only []
    refine ⟨?_, gO _ hk⟩
    have : fu f ts ss = none := List.find?_eq_none.mpr fun P hP => by simpa using ha P hP
    rw [this]; rfl
def IsSafeS (g : List D → Sto → R D) : Prop := ∀ (ns : List Str) (f : Str → Rat) (ls ts : List (Str × Str)) x us Ω, HouseOk ns f ls → ns.length ≤ 10 → TsOk ls ts → Meant ns x us → ∃ Ω', g [sysD ns f ts, x] Ω = .ok (.bl (fu f ts us).isNone) Ω' ∧ Gr Ω Ω'
theorem isn_nonOr (o : Option (List Str)) : isNonD (nonOr o) = o.isNone := by cases o <;> rfl
theorem safe_ok {ft : FT} (h : Has ft "set_among" AmongSetS) (h1 : Has ft "first_unsafe" FirstS) (d0 : ft.dfl "set_among" = []) (d1 : ft.dfl "first_unsafe" = []) : IsSafeS (runD ft 2 2 C.s_is_safe) := by
  intro ns f ls ts x us Ω H hn T hx
  suffices q : ∃ e Ω', runD ft 2 2 C.s_is_safe [sysD ns f ts, x] Ω = .ok e Ω' ∧ e = .bl (fu f ts us).isNone ∧ Gr Ω Ω' by
    obtain ⟨e, Ω', e1, rfl, q⟩ := q
    exact ⟨Ω', e1, q⟩
  refine run_of rfl ?_
  show SW (exL ft C.s_is_safe [some (sysD ns f ts), some x] Ω) _ _
  unfold C.s_is_safe
  rw [SW_cons]
  simp_arith only [d0, d1]
  refine call_of h fun g hg => ⟨_, _, hg ns f ls ts x us Ω H hx, ?_⟩
  refine call_of h1 fun g hg => ?_
  obtain ⟨Ω1, e1, g1⟩ := hg ns f ls ts us (.tup (us.map .str)) Ω H hn T (meant_sub H.asc hx) (.inr rfl)
  refine ⟨_, _, e1, ?_⟩
  cases fu f ts us with
  | none =>
    simp_arith only [nonOr]
    exact ⟨rfl, g1⟩
  | some P =>
    simp_arith only [nonOr, tD]
    exact ⟨rfl, g1⟩
def LeastCS (g : List D → Sto → R D) : Prop := ∀ (ns : List Str) (f : Str → Rat) (ls ts : List (Str × Str)) x us Ω, HouseOk ns f ls → ns.length ≤ 10 → TsOk ls ts → Meant ns x us → ∃ Ω', g [sysD ns f ts, x] Ω = .ok (frac (LC f ts us)) Ω' ∧ Gr Ω Ω'
theorem least_ok {ft : FT} (h : Has ft "set_among" AmongSetS) (h1 : Has ft "first_unsafe" FirstS) (h2 : Has ft "sum_over" (SumS 10)) (d0 : ft.dfl "set_among" = []) (d1 : ft.dfl "first_unsafe" = []) (d2 : ft.dfl "sum_over" = []) (con : ft.con "ZERO" = some (frac 0)) : LeastCS (runD ft 2 3 C.s_least_chance) := by
  intro ns f ls ts x us Ω H hn T hx
  suffices q : ∃ e Ω', runD ft 2 3 C.s_least_chance [sysD ns f ts, x] Ω = .ok e Ω' ∧ e = frac (LC f ts us) ∧ Gr Ω Ω' by
    obtain ⟨e, Ω', e1, rfl, q⟩ := q
    exact ⟨Ω', e1, q⟩
  have us_ := meant_sub H.asc hx
  refine run_of rfl ?_
  show SW (exL ft C.s_least_chance [some (sysD ns f ts), some x, none] Ω) _ _
  unfold C.s_least_chance
  rw [SW_cons]
  simp_arith only [d0]
  refine call_of h fun g hg => ⟨_, _, hg ns f ls ts x us Ω H hx, ?_⟩
  simp_arith only []
  rw [SW_cons]
  simp_arith only [d1]
  refine call_of h1 fun g hg => ?_
  obtain ⟨Ω1, e1, g1⟩ := hg ns f ls ts us (.tup (us.map .str)) Ω H hn T us_ (.inr rfl)
  refine ⟨_, _, e1, ?_⟩
  cases e : fu f ts us with
  | none =>
    simp_arith only [nonOr, d2]
    have hL : (Ω1 ++ [Ob.dt []])[Ω1.length]? = some (.dt []) := by rw [List.getElem?_append_right (Nat.le_refl _), Nat.sub_self]; rfl
    refine call_of h2 fun g hg => ?_
    obtain ⟨kvs, Ω2, e2, f2, M2, k2⟩ := hg ns f ls ts us [] (Ω1 ++ [Ob.dt []]) Ω1.length H T us_ (Nat.le_trans us_.length_le hn) hL MemoOk.nil
    refine ⟨_, _, e2, ?_⟩
    simp_arith only []
    refine ⟨by unfold LC; rw [e]; rfl, g1.trans ⟨?_, fun i hi => ?_⟩⟩
    · have := k2.len; rw [List.length_append] at this; omega
    · exact (k2.at_ i (by rw [List.length_append]; omega) (by omega)).trans (List.getElem?_append_left hi)
  | some P =>
    simp_arith only [nonOr, tD, con]
    exact ⟨by unfold LC; rw [e]; rfl, g1⟩
/-! ### what a system tells -/
def SharesMS (g : List D → Sto → R D) : Prop := ∀ (ns : List Str) (f : Str → Rat) (ts : List (Str × Str)) Ω, g [sysD ns f ts] Ω = .ok (shD ns f) Ω
def LinksMS (g : List D → Sto → R D) : Prop := ∀ (ns : List Str) (f : Str → Rat) (ts : List (Str × Str)) Ω, g [sysD ns f ts] Ω = .ok (.lst (ts.map pr)) Ω
theorem fld_t {ft : FT} (f1 : (ft.flds "System").contains "ties" = true) (ns : List Str) (f : Str → Rat) (ts : List (Str × Str)) : fldD ft.flds "ties" (sysD ns f ts) = some (.lst (ts.map pr)) := by
  unfold sysD
  rw [fldD_in f1]
  unfold sysF
  rw [List.lookup_cons]
  have e1 : (("ties" : Str) == "worths") = false := by decide
  rw [e1]
  simp
theorem fld_b {ft : FT} (f3 : (ft.flds "System").contains "beside" = true) (ns : List Str) (f : Str → Rat) (ts : List (Str × Str)) : fldD ft.flds "beside" (sysD ns f ts) = some (.dk (ns.map fun n => ((Sum.inr n : Key), D.lst ((nb ts n).map .str)))) := by
  unfold sysD
  rw [fldD_in f3]
  unfold sysF
  rw [List.lookup_cons]
  have e1 : (("beside" : Str) == "worths") = false := by decide
  rw [e1]
  show List.lookup ("beside" : Str) _ = _
  rw [List.lookup_cons]
  have e2 : (("beside" : Str) == "ties") = false := by decide
  rw [e2]
  simp
theorem lkS (Ω : Sto) (ns : List Str) (f : Str → Rat) (ts : List (Str × Str)) : lk Ω (sysD ns f ts) = sysD ns f ts := rfl
theorem lkH (Ω : Sto) (ns : List Str) (f : Str → Rat) : lk Ω (shD ns f) = shD ns f := rfl
theorem sharesM_ok {ft : FT} (f1 : (ft.flds "System").contains "worths" = true) : SharesMS (runD ft 1 1 C.s_System_shares) := by
  intro ns f ts Ω
  refine run_eq rfl ?_
  show SW (exL ft C.s_System_shares [some (sysD ns f ts)] Ω) _ _
  unfold C.s_System_shares
  have e : biD .dict [shD ns f] = some (shD ns f) := rfl
  rw [SW_cons]
  simp_arith only [lkS, fld_w f1, lkH, e]
  exact ⟨trivial, trivial⟩
theorem linksM_ok {ft : FT} (f1 : (ft.flds "System").contains "ties" = true) : LinksMS (runD ft 1 1 C.s_System_links) := by
  intro ns f ts Ω
  refine run_eq rfl ?_
  show SW (exL ft C.s_System_links [some (sysD ns f ts)] Ω) _ _
  unfold C.s_System_links
  have e : biD .list [.lst (ts.map pr)] = some (.lst (ts.map pr)) := rfl
  rw [SW_cons]
  simp_arith only [lkS, fld_t f1, e]
  exact ⟨trivial, trivial⟩
end Rf
end
section
namespace Rf
open PySem L2
/-! ### the law's own sums of all parts, and the least chance by them -/
def tk (P : List Str) : List Key := P.map fun s => (Sum.inr s : Key)
theorem tk_inj {P Q : List Str} (h : tk P = tk Q) : P = Q := (List.map_inj_right (fun a b h => Sum.inr.inj h)).mp h
theorem tkeyD_tD (P : List Str) : tkeyD (tD P) = some (tk P) := tkey_strs P
def sumsD (ns : List Str) (F : List Str → Rat) : D := .dt ((lparts ns).map fun P => (tk P, frac (F P)))
theorem parts_nd {ss : List Str} (h : ss.Nodup) : (Fm.parts ss).Nodup := by
  induction ss with
  | nil => exact List.pairwise_singleton _ _
  | cons x l ih =>
    obtain ⟨h1, h2⟩ := List.nodup_cons.mp h
    rw [(Fm.parts_cons x l).nodup_iff, List.nodup_append]
    refine ⟨ih h2, List.Pairwise.map _ (fun a b h e => h (List.cons.inj e).2) (ih h2), fun a ha b hb e => ?_⟩
    obtain ⟨Q, _, rfl⟩ := List.mem_map.mp hb
    subst e
    exact h1 ((parts_sub ha).subset (List.mem_cons_self ..))
theorem lparts_nd {ss : List Str} (h : ss.Nodup) : (lparts ss).Nodup := (lparts_perm ss).nodup_iff.mpr (parts_nd h)
theorem tpairs_map {α : Type} (k : α → List Str) (v : α → D) (xs : List α) : tpairsD (xs.map fun a => .tup [tD (k a), v a]) = some (xs.map fun a => (tk (k a), v a)) := by
  induction xs with
  | nil => rfl
  | cons x xs ih =>
    show (match tkeyD (tD (k x)), tpairsD (xs.map fun a => .tup [tD (k a), v a]) with | some k, some r => some ((k, v x) :: r) | _, _ => none) = _
    rw [ih, tkeyD_tD]; rfl
theorem dictT_new {α : Type} (k : α → List Str) (v : α → D) (xs : List α) (ne : xs ≠ []) (nd : (xs.map k).Nodup) : biD .dict [.lst (xs.map fun a => .tup [tD (k a), v a])] = some (.dt (xs.map fun a => (tk (k a), v a))) := by
  have e0 : biD .dict [.lst (xs.map fun a => .tup [tD (k a), v a])] = (match pairsD (xs.map fun a => .tup [tD (k a), v a]) with | some kvs => some (.dk (mergeD [] kvs)) | none => (tpairsD (xs.map fun a => .tup [tD (k a), v a])).map fun kvs => .dt (mergeD [] kvs)) := rfl
  have e1 : pairsD (xs.map fun a => .tup [tD (k a), v a]) = none := by
    cases xs with
    | nil => exact absurd rfl ne
    | cons x xs => rfl
  rw [e0, e1, tpairs_map]
  show some (D.dt (mergeD [] _)) = _
  rw [mergeD_new]
  · rfl
  · rw [List.nil_append, List.map_map]
    have : ((fun x : List Key × D => x.1) ∘ fun a => (tk (k a), v a)) = tk ∘ k := rfl
    rw [this, ← List.map_map]
    exact List.Pairwise.map _ (fun a b h e => h (tk_inj e)) nd
theorem lparts_ne (ss : List Str) : lparts ss ≠ [] := fun h => by
  have : ([] : List Str) ∈ lparts ss := (lparts_perm ss).mem_iff.mpr (sub_parts (List.nil_sublist _))
  rw [h] at this
  cases this
def SumsS (g : List D → Sto → R D) : Prop := ∀ (ns : List Str) (f : Str → Rat) (ls : List (Str × Str)) Ω, HouseOk ns f ls → ns.length ≤ 10 → ∃ Ω', g [shD ns f, .lst (ls.map pr)] Ω = .ok (sumsD ns (lsum f ls)) Ω' ∧ Gr Ω Ω'
theorem lparts_len {ss : List Str} (h : ss.length ≤ 10) : (lparts ss).length ≤ 1024 := by
  rw [(lparts_perm ss).length_eq, parts_len]
  exact Nat.pow_le_pow_right (n := 2) (by decide) h
theorem sums_ok {ft : FT} (h : Has ft "_law_parts" PartsS) (h1 : Has ft "_law_rising" RisingS) (h2 : Has ft "_law_free_sum" FreeSumL) (d0 : ft.dfl "_law_parts" = []) (d1 : ft.dfl "_law_rising" = []) (d2 : ft.dfl "_law_free_sum" = []) : SumsS (runD ft 2 3 C.s__law_sums) := by
  intro ns f ls Ω H hn
  suffices q : ∃ e Ω', runD ft 2 3 C.s__law_sums [shD ns f, .lst (ls.map pr)] Ω = .ok e Ω' ∧ e = sumsD ns (lsum f ls) ∧ Gr Ω Ω' by
    obtain ⟨e, Ω', e1, rfl, q⟩ := q
    exact ⟨Ω', e1, q⟩
  refine run_of rfl ?_
  show SW (exL ft C.s__law_sums [some (shD ns f), some (.lst (ls.map pr)), none] Ω) _ _
  unfold C.s__law_sums
  rw [SW_cons]
  simp_arith only [d0, d1]
  refine call_of h1 fun g hg => ⟨_, _, hg (shD ns f) ns Ω (it_dk ns _) (by omega), ?_⟩
  rw [sortS_asc_id H.asc]
  refine call_of h fun g hg => ?_
  obtain ⟨Ω1, e1, g1⟩ := hg ns Ω (by omega)
  refine ⟨_, _, e1, ?_⟩
  have it : iterD (.lst ((lparts ns).map tD)) = some ((lparts ns).map tD) := rfl
  simp_arith only [it, d2]
  refine lc_gr tD (fun P => some (.tup [tD P, frac (lsum f ls P)])) (by have := lparts_len hn; show _ ≤ 16777216; omega) (fun P hP Ω2 g2 => ?_) fun Ω2 g2 => ?_
  · simp_arith only []
    refine call_of h2 fun g hg => ?_
    have Ps := lparts_sub hP
    obtain ⟨Ω3, e3, g3⟩ := hg ns f ls P (tD P) Ω2 H (fun s hs => Ps.subset hs) (Nat.le_trans Ps.length_le hn) (.inr rfl)
    refine ⟨_, _, e3, ?_⟩
    simp_arith only []
    exact ⟨trivial, g3⟩
  · rw [fmSome]
    have ed := dictT_new (fun P : List Str => P) (fun P => frac (lsum f ls P)) (lparts ns) (lparts_ne ns) (by simpa using lparts_nd (asc_nd H.asc))
    simp_arith only [ed]
    exact ⟨rfl, g1.trans g2⟩
def lies (P Q : List Str) : Bool := P.all fun n => decide (n ∈ Q)
def Sq (x : D) (P : List Str) : Prop := x = .lst (P.map .str) ∨ x = tD P
theorem Sq.lk {x : D} {P : List Str} (h : Sq x P) (Ω : Sto) : lk Ω x = x := by rcases h with rfl | rfl <;> rfl
theorem Sq.it {x : D} {P : List Str} (h : Sq x P) : iterD x = some (P.map .str) := by rcases h with rfl | rfl <;> rfl
theorem Sq.inn {x : D} {P : List Str} (h : Sq x P) (n : Str) : inD (.str n) x = some (decide (n ∈ P)) := by
  rcases h with rfl | rfl
  · exact inD_lst n P
  · exact inD_tD n P
theorem Sq.tup {x : D} {P : List Str} (h : Sq x P) : biD .tuple [x] = some (tD P) := by rcases h with rfl | rfl <;> rfl
theorem Sq.len {x : D} {P : List Str} (h : Sq x P) : biD .len [x] = some (.int (P.length : Int)) := by
  rcases h with rfl | rfl
  · rw [lenl, List.length_map]
  · unfold tD; rw [lent, List.length_map]
def LiesS (g : List D → Sto → R D) : Prop := ∀ (P Q : List Str) x y Ω, Sq x P → Sq y Q → P.length ≤ 1000 → g [x, y] Ω = .ok (.bl (lies P Q)) Ω
theorem lies_ok {ft : FT} : LiesS (runD ft 2 3 C.s__law_lies) := by
  intro P Q x y Ω hx hy hl
  refine run_eq rfl ?_
  show SW (exL ft C.s__law_lies [some x, some y, none] Ω) _ _
  unfold C.s__law_lies
  rw [SW_cons]
  simp_arith only [hx.it]
  refine lc_map D.str (fun n => some (.bl (decide (n ∈ Q)))) (by show _ ≤ 16777216; omega) (fun n hn => ?_) ?_
  · simp_arith only [hy.lk, hy.inn]
    exact ⟨trivial, trivial⟩
  · rw [fmSome]
    simp_arith only [alll, boolsD_map]
    refine ⟨?_, trivial⟩
    unfold lies
    rw [List.all_map]
    rfl
def lst (ns : List Str) (F : List Str → Rat) (us : List Str) : Rat := if ((lparts ns).filter fun P => lies P us).all (fun P => decide (0 < (F P).num)) = true then F us else 0
def LeastLS (g : List D → Sto → R D) : Prop := ∀ (ns : List Str) (F : List Str → Rat) (us : List Str) x Ω, ns.Nodup → ns.length ≤ 10 → us.Sublist ns → Sq x us → g [sumsD ns F, x] Ω = .ok (frac (lst ns F us)) Ω
theorem getK_sums {ns : List Str} {F : List Str → Rat} (nd : ns.Nodup) {P : List Str} (h : P.Sublist ns) : getK ((lparts ns).map fun P => (tk P, frac (F P))) (tk P) = some (frac (F P)) := by
  have h2 : ((tk P, frac (F P)) : List Key × D) ∈ (lparts ns).map fun P => (tk P, frac (F P)) := List.mem_map.mpr ⟨P, (lparts_perm ns).mem_iff.mpr (sub_parts h), rfl⟩
  refine getK_mem (kv := (tk P, frac (F P))) ?_ h2
  rw [List.map_map]
  exact List.Pairwise.map _ (fun a b h e => h (tk_inj e)) (lparts_nd nd)
theorem idx_sums {ns : List Str} {F : List Str → Rat} (nd : ns.Nodup) {P : List Str} (h : P.Sublist ns) : idxD (sumsD ns F) (tD P) = some (frac (F P)) := by
  show (match tkeyD (tD P) with | some k => getK _ k | none => none) = _
  rw [tkeyD_tD]
  exact getK_sums nd h
theorem it_sums {ns : List Str} {F : List Str → Rat} (hn : ns.length ≤ 10) : iterD (sumsD ns F) = some ((lparts ns).map tD) := by
  have hb : ((lparts ns).map fun P => (tk P, frac (F P))).all (fun kv => decide (kv.1.length ≤ big)) = true := by
    rw [List.all_map]
    refine List.all_eq_true.mpr fun P hP => decide_eq_true ?_
    show (tk P).length ≤ 16777216
    unfold tk
    rw [List.length_map]
    have := (lparts_sub hP).length_le
    omega
  show (if _ then _ else _) = _
  rw [if_pos hb, List.map_map]
  congr 1
  refine List.map_congr_left fun P _ => ?_
  show D.tup ((tk P).map kD) = tD P
  unfold tk tD
  rw [List.map_map]
  rfl
theorem leastL_ok {ft : FT} (h : Has ft "_law_lies" LiesS) (d0 : ft.dfl "_law_lies" = []) : LeastLS (runD ft 2 3 C.s__law_least) := by
  intro ns F us x Ω nd hn hs hx
  refine run_eq rfl ?_
  show SW (exL ft C.s__law_least [some (sumsD ns F), some x, none] Ω) _ _
  unfold C.s__law_least
  have lkU : ∀ Ω, lk Ω (sumsD ns F) = sumsD ns F := fun _ => rfl
  rw [SW_cons]
  simp_arith only [it_sums hn, d0]
  refine lc_map tD (fun P => if lies P us = true then some (.bl (decide (0 < (F P).num))) else none) (by have := lparts_len hn; show _ ≤ 16777216; omega) (fun P hP => ?_) ?_
  · have Ps := lparts_sub hP
    have Pl := Ps.length_le
    simp_arith only []
    refine call_of h fun g hg => ⟨_, _, hg P us (tD P) x Ω (.inr rfl) hx (by omega), ?_⟩
    by_cases hl : lies P us = true
    · have i0 : idxD (frac (F P)) (.int 0) = some (.int (F P).num) := rfl
      have lkf : ∀ Ω, lk Ω (frac (F P)) = frac (F P) := fun _ => rfl
      simp_arith only [hl, lkU, idx_sums nd Ps, lkf, i0]
      exact ⟨trivial, trivial⟩
    · have hl : lies P us = false := by simpa using hl
      simp_arith only [hl]
      exact ⟨trivial, trivial⟩
  · rw [fmIf]
    simp_arith only [alll, boolsD_map]
    by_cases ha : ((lparts ns).filter fun P => lies P us).all (fun P => decide (0 < (F P).num)) = true
    · have e2 : (((lparts ns).filter fun P => lies P us).map fun P => decide (0 < (F P).num)).all id = true := by rw [List.all_map]; exact ha
      simp_arith only [e2]
      rw [SW_cons]
      simp_arith only [hx.lk, hx.tup, lkU, lk_tD, idx_sums nd hs]
      refine ⟨?_, trivial⟩
      unfold lst
      rw [if_pos ha]
    · have e2 : (((lparts ns).filter fun P => lies P us).map fun P => decide (0 < (F P).num)).all id = false := by rw [List.all_map]; simpa using ha
      simp_arith only [e2]
      rw [SW_nil, SW_cons]
      simp_arith only []
      refine ⟨?_, trivial⟩
      unfold lst
      rw [if_neg ha]; rfl
/-- by the law's own sums it is the least chance -/
theorem lst_LC {ns : List Str} {f : Str → Rat} {ls ts : List (Str × Str)} (H : HouseOk ns f ls) (T : TsOk ls ts) {us : List Str} (hs : us.Sublist ns) : lst ns (lsum f ls) us = LC f ts us := by
  have e : ((lparts ns).filter fun P => lies P us).all (fun P => decide (0 < (lsum f ls P).num)) = true ↔ (fu f ts us).isNone = true := by
    rw [fu_none, List.all_eq_true]
    constructor
    · intro h P hP
      have := h P (List.mem_filter.mpr ⟨(lparts_perm ns).mem_iff.mpr (sub_parts (hP.trans hs)), List.all_eq_true.mpr fun n hn => decide_eq_true (hP.subset hn)⟩)
      rw [← lsum_FS H T, rat_pos]
      simpa using this
    · intro h P hP
      obtain ⟨h1, h2⟩ := List.mem_filter.mp hP
      have Ps := lparts_sub h1
      have : P.Sublist us := asc_sub_of (List.Pairwise.sublist Ps H.asc) (List.Pairwise.sublist hs H.asc) fun x hx => of_decide_eq_true (List.all_eq_true.mp h2 x hx)
      rw [lsum_FS H T]
      exact decide_eq_true ((rat_pos _).mp (h P this))
  unfold lst LC
  rw [lsum_FS H T]
  by_cases h : (fu f ts us).isNone = true
  · rw [if_pos (e.mpr h), if_pos h]
  · rw [if_neg (fun z => h (e.mp z)), if_neg h]
theorem ts_eq {ns : List Str} {f : Str → Rat} {ls ts : List (Str × Str)} (H : HouseOk ns f ls) (T : TsOk ls ts) : ts = ls := ascP_ext T.2.2 H.ac T.1
theorem LC_zero {f : Str → Rat} {ts : List (Str × Str)} {us : List Str} : (LC f ts us = 0) ↔ (fu f ts us).isNone = false := by
  unfold LC
  by_cases h : (fu f ts us).isNone = true
  · rw [if_pos h]
    have := fu_none.mp h us (List.Sublist.refl _)
    constructor
    · intro z; rw [z] at this; exact absurd this Rat.lt_irrefl
    · intro z; rw [z] at h; cases h
  · rw [if_neg h]
    exact ⟨fun _ => Bool.eq_false_iff.mpr h, fun _ => rfl⟩
end Rf
end
section
namespace Rf
open PySem L2
def LooseTS (g : List D → Sto → R D) : Prop := ∀ Ω s b c xs, Sp Ω s b c → c < 2 ^ 40 → ∃ d Ω', g [.hd s, .tup xs] Ω = .ok d Ω' ∧ (d = .lst xs ∨ d = .tup xs) ∧ Sp Ω' s b (c + 1) ∧ Kp s b Ω Ω'
theorem looseT_ok {ft : FT} (h : Has ft "_law_take" TakeS) (hd : ft.dfl "_law_take" = []) : LooseTS (runD ft 2 2 C.s__law_loose) := by
  intro Ω s b c xs hs hc
  refine run_of rfl ?_
  show SW (exL ft C.s__law_loose [some (.hd s), some (.tup xs)] Ω) _ _
  unfold C.s__law_loose
  rw [SW_cons]
  simp_arith only [hd]
  refine call_of h fun g hg => ?_
  obtain ⟨v, Ω2, e, v0, v1, s1, k1⟩ := hg Ω s b c 2 hs hc (by omega) (by omega)
  refine ⟨_, _, e, ?_⟩
  simp_arith only []
  by_cases hv : v = 0
  · simp_arith only [hv, beq_self_eq_true, listd, listD, seqD]
    exact ⟨.inl trivial, s1, k1⟩
  · rw [if_neg (by simpa using hv)]
    simp_arith only []
    exact ⟨.inr trivial, s1, k1⟩
theorem rat_ext {x y : Rat} (h1 : x.num = y.num) (h2 : x.den = y.den) : x = y := by
  rw [← Rat.num_divInt_den x, ← Rat.num_divInt_den y, h1, h2]
theorem eqD_frac (x y : Rat) : eqD (frac x) (frac y) = some (decide (x = y)) := by
  unfold eqD frac
  have e : ∀ r : Rat, toPy (.tup [.int r.num, .int (r.den : Int)]) = some (.tuple [.int r.num, .int (r.den : Int)]) := fun r => rfl
  have s1 : ∀ r : Rat, SeqAt.shaped (.tuple [.int r.num, .int (r.den : Int)]) = true := fun r => by
    unfold SeqAt.shaped
    simp [PyData.canLay0, PyData.canLayAll0, PyData.depth, PyData.depthAll]
  simp only [e, s1, and_self, if_true]
  congr 1
  rw [Bool.eq_iff_iff, decide_eq_true_iff]
  simp only [PyData.eqv, PyData.eqvAll, Bool.and_eq_true, beq_iff_eq, Bool.and_true, and_true]
  constructor
  · intro h
    refine rat_ext ?_ ?_
    · simpa using h.1
    · have h2 : (x.den : Int) = (y.den : Int) := by simpa using h.2
      omega
  · rintro rfl
    simp
theorem eqD_frac0 (x : Rat) : eqD (frac x) (.tup [.int 0, .int 1]) = some (decide (x = 0)) := eqD_frac x 0
theorem eqD_frac1 (x : Rat) : eqD (frac x) (.tup [.int 1, .int 1]) = some (decide (x = 1)) := eqD_frac x 1
theorem cNe_frac (x y : Rat) : cmpD .NotEq (frac x) (frac y) = some (!decide (x = y)) := by
  rw [cNe, eqD_frac]; rfl
theorem lk_frac (Ω : Sto) (x : Rat) : lk Ω (frac x) = frac x := rfl
theorem SmD.str {n : Nat} {s : Str} (h : NameOk s) : SmD n (.str s) := by cases n <;> exact GD_str h
theorem SmD.tDn {n : Nat} {P : List Str} (h : ∀ s ∈ P, NameOk s) (hl : P.length ≤ 1000) : SmD (n + 1) (tD P) := by
  refine ⟨by rw [List.length_map]; omega, fun x hx => ?_⟩
  obtain ⟨s, hs, rfl⟩ := List.mem_map.mp hx
  exact SmD.str (h s hs)
theorem SmD.links {n : Nat} {ns : List Str} {ls : List (Str × Str)} (h : ∀ p ∈ ls, NameOk p.1 ∧ NameOk p.2) (hl : ls.length ≤ 1000) : SmD (n + 2) (.lst (ls.map pr)) := by
  refine ⟨by rw [List.length_map]; omega, fun x hx => ?_⟩
  obtain ⟨p, hp, rfl⟩ := List.mem_map.mp hx
  refine ⟨by simp, fun y hy => ?_⟩
  simp only [List.mem_cons, List.not_mem_nil, or_false] at hy
  rcases hy with rfl | rfl
  · exact SmD.str (h p hp).1
  · exact SmD.str (h p hp).2
theorem SmD.shares {n : Nat} {ns : List Str} {f : Str → Rat} (h : ns.Nodup) (hl : ns.length ≤ 1000) : SmD (n + 2) (shD ns f) := by
  refine ⟨by rw [List.length_map]; omega, by simpa using nd_keys (fun n => Rf.frac (f n)) h, fun kv hkv => ?_⟩
  obtain ⟨m, _, rfl⟩ := List.mem_map.mp hkv
  exact SmD.frac n _
theorem SmD.l2 {n : Nat} {a b : D} (ha : SmD n a) (hb : SmD n b) : SmD (n + 1) (.lst [a, b]) := by
  refine ⟨by simp, fun x hx => ?_⟩
  simp only [List.mem_cons, List.not_mem_nil, or_false] at hx
  rcases hx with rfl | rfl
  · exact ha
  · exact hb
theorem SmD.bl {n : Nat} (b : Bool) : SmD n (.bl b) := by cases n <;> trivial
theorem links_names {ns : List Str} {f : Str → Rat} {ls : List (Str × Str)} (H : HouseOk ns f ls) : ∀ p ∈ ls, NameOk p.1 ∧ NameOk p.2 := fun p hp => ⟨H.nm _ (H.lk p hp).1, H.nm _ (H.lk p hp).2.1⟩
theorem meant_seq {ns us : List Str} {x : D} (ha : Asc ns) (hu : us.Sublist ns) {zs : List Str} (hx : x = .lst (zs.map .str) ∨ x = .tup (zs.map .str)) (hz : zs.Perm us) (hl : us.length < 64) : Meant ns x us := by
  refine .inr ⟨zs, hx, by rw [hz.length_eq]; exact hl, fun s hs => hu.subset (hz.subset hs), ?_⟩
  exact asc_ext (List.Pairwise.sublist hu ha) (sortS_asc _) fun z => by rw [sortS_mem]; exact hz.mem_iff.symm
/-- one house is drawn: so many faults, a style -/
theorem three_styles {st : D} {xs : List Str} (h : st ∈ xs.map D.str) : ∃ t, t ∈ xs ∧ st = .str t := by
  obtain ⟨t, h1, h2⟩ := List.mem_map.mp h
  exact ⟨t, h1, h2.symm⟩
end Rf
end
section
namespace Rf.K15
open PySem L2
theorem law_ok {ft : FT} (h0 : Has ft "_law_spring" SpringS) (h1 : Has ft "_law_take" TakeS) (h2 : Has ft "_law_one" OneS) (h3 : Has ft "_law_house" HouseS) (h4 : Has ft "_law_made" MadeS) (h5 : Has ft "_law_sums" SumsS) (h6 : Has ft "_law_loose" LooseTS) (h7 : Has ft "_law_mixed" MixedS) (h8 : Has ft "_law_same" (SameS 3)) (h9 : Has ft "least_chance" LeastCS) (h10 : Has ft "is_safe" IsSafeS) (h11 : Has ft "_law_least" LeastLS) (h12 : Has ft "_law_rising" RisingS) (h13 : Has ft "System.shares" SharesMS) (h14 : Has ft "System.links" LinksMS)
    (d0 : ft.dfl "_law_spring" = []) (d1 : ft.dfl "_law_take" = []) (d2 : ft.dfl "_law_one" = []) (d3 : ft.dfl "_law_house" = []) (d4 : ft.dfl "_law_made" = []) (d5 : ft.dfl "_law_sums" = []) (d6 : ft.dfl "_law_loose" = []) (d7 : ft.dfl "_law_mixed" = []) (d8 : ft.dfl "_law_same" = []) (d9 : ft.dfl "least_chance" = [.non]) (d10 : ft.dfl "is_safe" = [.non]) (d11 : ft.dfl "_law_least" = []) (d12 : ft.dfl "_law_rising" = []) (d13 : ft.dfl "System.shares" = []) (d14 : ft.dfl "System.links" = []) :
    ∀ ns : List Int, ns.length ≤ 63 → ∃ Ω, runD ft 1 9 s_law [.scr ns] [] = .ok (.bl true) Ω := by
  intro sc hsc
  suffices q : ∃ e Ω', runD ft 1 9 s_law [.scr sc] [] = .ok e Ω' ∧ e = .bl true by
    obtain ⟨e, Ω', e1, rfl⟩ := q
    exact ⟨Ω', e1⟩
  refine run_of rfl ?_
  show SW (exL ft s_law [some (.scr sc), none, none, none, none, none, none, none, none] []) _ _
  unfold s_law
  rw [SW_cons]
  simp_arith only [d0]
  refine call_of h0 fun g hg => ?_
  obtain ⟨s, b, Ω0, e0, s0⟩ := hg sc hsc
  refine ⟨_, _, e0, ?_⟩
  simp_arith only []
  rw [SW_cons]
  have r3 : inR 3 = true := rfl
  have rl : ∀ i x, (rngD 0 3)[i]? = some x → i < 3 := fun i x hx => by have := (List.getElem?_eq_some_iff.mp hx).1; simpa [rngD] using this
  simp_arith only [r3]
  refine for_of (fun i ρ Ω => (∃ z2 z3 z4 z5 z6 z7 z8 : Option D, ρ = [some (.scr sc), some (.hd s), z2, z3, z4, z5, z6, z7, z8]) ∧ Sp Ω s b (3000 * i)) ⟨⟨none, none, none, none, none, none, none, rfl⟩, s0.le (by omega)⟩ (fun i x ρ Ω hx hi => ?_) (fun ρ Ω hi => ?_)
  · obtain ⟨⟨z2, z3, z4, z5, z6, z7, z8, rfl⟩, hs⟩ := hi
    have hi3 := rl i x hx
    rw [SW_cons]
    simp_arith only [d1, d2, d3]
    refine call_of h1 fun g hg => ?_
    obtain ⟨v, Ω1, e, v0, v1, s1, _⟩ := hg Ω s b _ 8 hs (by omega) (by omega) (by omega)
    refine ⟨_, _, e, ?_⟩
    simp_arith only [d2, d3]
    refine call_of h2 fun g hg => ?_
    obtain ⟨st, Ω2, e, hst, s2, _⟩ := hg Ω1 s b _ ([("any" : Str), "small", "great"].map D.str) s1 (by omega) (by simp) (by simp)
    refine ⟨_, _, e, ?_⟩
    simp_arith only [d3]
    obtain ⟨st, hst', rfl⟩ := three_styles hst
    refine call_of h3 fun g hg => ?_
    obtain ⟨ns, f, ls, Ω3, e, H, hnl, s3, _⟩ := hg Ω2 s b _ v st s2 v0 (by omega) (by revert hst'; simp; rintro (rfl | rfl | rfl) <;> simp) (by omega)
    refine ⟨_, _, e, ?_⟩
    have hn7 : ns.length ≤ 7 := by omega
    have ndn := asc_nd H.asc
    have hll := H.ll
    simp_arith only []
    rw [SW_cons]
    simp_arith only [d4, d5]
    refine call_of h4 fun g hg => ?_
    obtain ⟨ts, Ω4, e, T, s4, _⟩ := hg ns f ls Ω3 s b _ H s3 (by omega)
    refine ⟨_, _, e, ?_⟩
    simp_arith only [d5]
    refine call_of h5 fun g hg => ?_
    obtain ⟨Ω5, e, g5⟩ := hg ns f ls Ω4 H (by omega)
    refine ⟨_, _, e, ?_⟩
    simp_arith only []
    have s5 := g5.sp s4
    have lz : ∀ us : List Str, us.Sublist ns → lst ns (lsum f ls) us = LC f ts us := fun us hu => lst_LC H T hu
    have ll : (lparts ns).length ≤ 128 := by
      rw [(lparts_perm ns).length_eq, parts_len]
      exact Nat.pow_le_pow_right (n := 2) (by decide) hn7
    have bz : ∀ us : List Str, (!decide (LC f ts us = 0)) = (fu f ts us).isNone := fun us => by
      cases hb : (fu f ts us).isNone with
      | true =>
        have : ¬ LC f ts us = 0 := fun z => by rw [LC_zero.mp z] at hb; cases hb
        simp [this]
      | false =>
        have : LC f ts us = 0 := LC_zero.mpr hb
        simp [this]
    rw [SW_cons]
    simp_arith only [it_sums (ns := ns) (F := lsum f ls) (by omega)]
    refine for_of (fun j ρ Ω => (∃ z3 z4 : Option D, ρ = [some (.scr sc), some (.hd s), some x, z3, z4, some (shD ns f), some (.lst (ls.map pr)), some (sysD ns f ts), some (sumsD ns (lsum f ls))]) ∧ Sp Ω s b (3000 * i + 802 + 10 * j)) ⟨⟨z3, z4, rfl⟩, s5.le (by omega)⟩ (fun j y ρ Ω6 hy hj => ?_) (fun ρ Ω6 hj => ?_)
    · obtain ⟨⟨z3, z4, rfl⟩, s6⟩ := hj
      rw [List.getElem?_map] at hy
      cases ep : (lparts ns)[j]? with
      | none => rw [ep] at hy; cases hy
      | some P =>
        rw [ep] at hy
        have hy : tD P = y := Option.some.inj hy
        subst hy
        have hj : j < (lparts ns).length := (List.getElem?_eq_some_iff.mp ep).1
        have Ps := lparts_sub (List.mem_of_getElem? ep)
        have Pl := Ps.length_le
        rw [SW_cons]
        simp_arith only [d11]
        refine call_of h11 fun g hg => ⟨_, _, hg ns (lsum f ls) P (tD P) Ω6 ndn (by omega) Ps (.inr rfl), ?_⟩
        rw [lz P Ps]
        simp_arith only []
        rw [SW_cons]
        simp_arith only [d6, d8, d9]
        refine call_of h6 fun g hg => ?_
        obtain ⟨d, Ω7, e, hd, s7, _⟩ := hg Ω6 s b _ (P.map .str) s6 (by omega)
        refine ⟨_, _, e, ?_⟩
        simp_arith only [d8, d9]
        refine call_of h9 fun g hg => ?_
        obtain ⟨Ω8, e, g8⟩ := hg ns f ls ts d P Ω7 H (by omega) T (meant_seq H.asc Ps hd (.refl _) (by omega))
        refine ⟨_, _, e, ?_⟩
        simp_arith only [d8]
        refine call_of h8 fun g hg => ⟨_, _, hg (frac (LC f ts P)) Ω8 (SmD.frac 2 _), ?_⟩
        simp_arith only []
        rw [SW_nil, SW_cons]
        simp_arith only [d7, d8, d10]
        refine call_of h7 fun g hg => ?_
        obtain ⟨ys, Ω9, e, hys, s9, _⟩ := hg Ω8 s b _ (tD P) (P.map .str) (g8.sp s7) (by rw [List.length_map]; omega) (fun k => by unfold tD; simp) rfl (fun z hz => by obtain ⟨n, hn, rfl⟩ := List.mem_map.mp hz; exact GD_str (H.nm n (Ps.subset hn))) (by rw [List.length_map]; omega)
        refine ⟨_, _, e, ?_⟩
        rw [List.length_map] at s9
        obtain ⟨us, rfl, hus⟩ := perm_map_inv hys
        simp_arith only [d8, d10]
        refine call_of h10 fun g hg => ?_
        obtain ⟨Ω10, e, g10⟩ := hg ns f ls ts (.lst (us.map .str)) P Ω9 H (by omega) T (meant_seq H.asc Ps (.inl rfl) hus (by omega))
        refine ⟨_, _, e, ?_⟩
        simp_arith only [d8, lk_frac, eqD_frac0, Option.map_some, bz]
        refine call_of h8 fun g hg => ⟨_, _, hg (.bl _) Ω10 (SmD.bl _), ?_⟩
        simp_arith only []
        rw [SW_nil, SW_nil]
        exact ⟨⟨_, _, rfl⟩, (g10.sp s9).le (by omega)⟩
    · obtain ⟨⟨z3, z4, rfl⟩, s6⟩ := hj
      rw [List.length_map] at s6
      rw [SW_cons]
      simp_arith only [d11, d12]
      refine call_of h12 fun g hg => ⟨_, _, hg (shD ns f) ns Ω6 (it_dk ns _) (by omega), ?_⟩
      rw [sortS_asc_id H.asc]
      simp_arith only [d11]
      refine call_of h11 fun g hg => ⟨_, _, hg ns (lsum f ls) ns (.tup (ns.map .str)) Ω6 ndn (by omega) (List.Sublist.refl _) (.inr rfl), ?_⟩
      rw [lz ns (List.Sublist.refl _)]
      simp_arith only []
      rw [SW_cons]
      simp_arith only [d8, d9, d10]
      refine call_of h9 fun g hg => ?_
      obtain ⟨Ω7, e, g7⟩ := hg ns f ls ts .non ns Ω6 H (by omega) T (.inl ⟨rfl, rfl⟩)
      refine ⟨_, _, e, ?_⟩
      simp_arith only [d8, d10]
      refine call_of h10 fun g hg => ?_
      obtain ⟨Ω8, e, g8⟩ := hg ns f ls ts .non ns Ω7 H (by omega) T (.inl ⟨rfl, rfl⟩)
      refine ⟨_, _, e, ?_⟩
      simp_arith only [d8, lk_frac, eqD_frac0, Option.map_some, bz]
      refine call_of h8 fun g hg => ⟨_, _, hg (.lst [frac (LC f ts ns), .bl (fu f ts ns).isNone]) Ω8 (SmD.l2 (SmD.frac 1 _) (SmD.bl _)), ?_⟩
      simp_arith only []
      rw [SW_nil, SW_cons]
      have nl : ∀ m : Str, m = "shares" ∨ m = "links" → ((sysF ns f ts).lookup m).isSome = false := fun m hm => by
        rcases hm with rfl | rfl <;> rfl
      simp_arith only [lkS, sysD, nl _ (.inl rfl), d13]
      refine call_of h13 fun g hg => ⟨_, _, hg ns f ts Ω8, ?_⟩
      simp_arith only [lkS, sysD, nl _ (.inr rfl), d14]
      refine call_of h14 fun g hg => ⟨_, _, hg ns f ts Ω8, ?_⟩
      rw [ts_eq H T]
      simp_arith only [d8]
      refine call_of h8 fun g hg => ⟨_, _, hg (.lst [shD ns f, .lst (ls.map pr)]) Ω8 (SmD.l2 (SmD.shares ndn (by omega)) (SmD.links (ns := ns) (links_names H) (by omega))), ?_⟩
      simp_arith only []
      rw [SW_nil, SW_nil]
      exact ⟨⟨_, _, _, _, _, _, _, rfl⟩, (g8.sp (g7.sp s6)).le (by omega)⟩
  · rw [SW_cons]
    simp_arith only []
end Rf.K15
end
section
namespace Rf.K15
open PySem L2
theorem F__law_spring : L.find "_law_spring" = some f__law_spring := by kernel_rfl
theorem D__law_spring (d : Nat) : (L.ft d).dfl "_law_spring" = f__law_spring.dfl := by rw [Law.dfl_eq, Law.dflOf_eq L F__law_spring]
theorem F__law_take : L.find "_law_take" = some f__law_take := by kernel_rfl
theorem D__law_take (d : Nat) : (L.ft d).dfl "_law_take" = f__law_take.dfl := by rw [Law.dfl_eq, Law.dflOf_eq L F__law_take]
theorem F__law_one : L.find "_law_one" = some f__law_one := by kernel_rfl
theorem D__law_one (d : Nat) : (L.ft d).dfl "_law_one" = f__law_one.dfl := by rw [Law.dfl_eq, Law.dflOf_eq L F__law_one]
theorem F__law_rising : L.find "_law_rising" = some f__law_rising := by kernel_rfl
theorem D__law_rising (d : Nat) : (L.ft d).dfl "_law_rising" = f__law_rising.dfl := by rw [Law.dfl_eq, Law.dflOf_eq L F__law_rising]
theorem F__law_name : L.find "_law_name" = some f__law_name := by kernel_rfl
theorem D__law_name (d : Nat) : (L.ft d).dfl "_law_name" = f__law_name.dfl := by rw [Law.dfl_eq, Law.dflOf_eq L F__law_name]
theorem F__law_names : L.find "_law_names" = some f__law_names := by kernel_rfl
theorem D__law_names (d : Nat) : (L.ft d).dfl "_law_names" = f__law_names.dfl := by rw [Law.dfl_eq, Law.dflOf_eq L F__law_names]
theorem F__law_lowest : L.find "_law_lowest" = some f__law_lowest := by kernel_rfl
theorem D__law_lowest (d : Nat) : (L.ft d).dfl "_law_lowest" = f__law_lowest.dfl := by rw [Law.dfl_eq, Law.dflOf_eq L F__law_lowest]
theorem F__law_share : L.find "_law_share" = some f__law_share := by kernel_rfl
theorem D__law_share (d : Nat) : (L.ft d).dfl "_law_share" = f__law_share.dfl := by rw [Law.dfl_eq, Law.dflOf_eq L F__law_share]
theorem F__law_mixed : L.find "_law_mixed" = some f__law_mixed := by kernel_rfl
theorem D__law_mixed (d : Nat) : (L.ft d).dfl "_law_mixed" = f__law_mixed.dfl := by rw [Law.dfl_eq, Law.dflOf_eq L F__law_mixed]
theorem F__law_links : L.find "_law_links" = some f__law_links := by kernel_rfl
theorem D__law_links (d : Nat) : (L.ft d).dfl "_law_links" = f__law_links.dfl := by rw [Law.dfl_eq, Law.dflOf_eq L F__law_links]
theorem F__law_house : L.find "_law_house" = some f__law_house := by kernel_rfl
theorem D__law_house (d : Nat) : (L.ft d).dfl "_law_house" = f__law_house.dfl := by rw [Law.dfl_eq, Law.dflOf_eq L F__law_house]
theorem F__law_loose : L.find "_law_loose" = some f__law_loose := by kernel_rfl
theorem D__law_loose (d : Nat) : (L.ft d).dfl "_law_loose" = f__law_loose.dfl := by rw [Law.dfl_eq, Law.dflOf_eq L F__law_loose]
theorem F__law_handed : L.find "_law_handed" = some f__law_handed := by kernel_rfl
theorem D__law_handed (d : Nat) : (L.ft d).dfl "_law_handed" = f__law_handed.dfl := by rw [Law.dfl_eq, Law.dflOf_eq L F__law_handed]
theorem F_is_name : L.find "is_name" = some f_is_name := by kernel_rfl
theorem D_is_name (d : Nat) : (L.ft d).dfl "is_name" = f_is_name.dfl := by rw [Law.dfl_eq, Law.dflOf_eq L F_is_name]
theorem F_is_integer : L.find "is_integer" = some f_is_integer := by kernel_rfl
theorem D_is_integer (d : Nat) : (L.ft d).dfl "is_integer" = f_is_integer.dfl := by rw [Law.dfl_eq, Law.dflOf_eq L F_is_integer]
theorem F_is_list : L.find "is_list" = some f_is_list := by kernel_rfl
theorem D_is_list (d : Nat) : (L.ft d).dfl "is_list" = f_is_list.dfl := by rw [Law.dfl_eq, Law.dflOf_eq L F_is_list]
theorem F_lowest : L.find "lowest" = some f_lowest := by kernel_rfl
theorem D_lowest (d : Nat) : (L.ft d).dfl "lowest" = f_lowest.dfl := by rw [Law.dfl_eq, Law.dflOf_eq L F_lowest]
theorem F_fraction_of : L.find "fraction_of" = some f_fraction_of := by kernel_rfl
theorem D_fraction_of (d : Nat) : (L.ft d).dfl "fraction_of" = f_fraction_of.dfl := by rw [Law.dfl_eq, Law.dflOf_eq L F_fraction_of]
theorem F_size_of : L.find "size_of" = some f_size_of := by kernel_rfl
theorem D_size_of (d : Nat) : (L.ft d).dfl "size_of" = f_size_of.dfl := by rw [Law.dfl_eq, Law.dflOf_eq L F_size_of]
theorem F_share_of : L.find "share_of" = some f_share_of := by kernel_rfl
theorem D_share_of (d : Nat) : (L.ft d).dfl "share_of" = f_share_of.dfl := by rw [Law.dfl_eq, Law.dflOf_eq L F_share_of]
theorem F_rising : L.find "rising" = some f_rising := by kernel_rfl
theorem D_rising (d : Nat) : (L.ft d).dfl "rising" = f_rising.dfl := by rw [Law.dfl_eq, Law.dflOf_eq L F_rising]
theorem F_is_among : L.find "is_among" = some f_is_among := by kernel_rfl
theorem D_is_among (d : Nat) : (L.ft d).dfl "is_among" = f_is_among.dfl := by rw [Law.dfl_eq, Law.dflOf_eq L F_is_among]
theorem F_checked_links : L.find "checked_links" = some f_checked_links := by kernel_rfl
theorem D_checked_links (d : Nat) : (L.ft d).dfl "checked_links" = f_checked_links.dfl := by rw [Law.dfl_eq, Law.dflOf_eq L F_checked_links]
theorem F_partners : L.find "partners" = some f_partners := by kernel_rfl
theorem D_partners (d : Nat) : (L.ft d).dfl "partners" = f_partners.dfl := by rw [Law.dfl_eq, Law.dflOf_eq L F_partners]
theorem F_System___init__ : L.find "System.__init__" = some f_System___init__ := by kernel_rfl
theorem D_System___init__ (d : Nat) : (L.ft d).dfl "System.__init__" = f_System___init__.dfl := by rw [Law.dfl_eq, Law.dflOf_eq L F_System___init__]
theorem F__law_made : L.find "_law_made" = some f__law_made := by kernel_rfl
theorem D__law_made (d : Nat) : (L.ft d).dfl "_law_made" = f__law_made.dfl := by rw [Law.dfl_eq, Law.dflOf_eq L F__law_made]
theorem F__law_parts : L.find "_law_parts" = some f__law_parts := by kernel_rfl
theorem D__law_parts (d : Nat) : (L.ft d).dfl "_law_parts" = f__law_parts.dfl := by rw [Law.dfl_eq, Law.dflOf_eq L F__law_parts]
theorem F__law_is_free : L.find "_law_is_free" = some f__law_is_free := by kernel_rfl
theorem D__law_is_free (d : Nat) : (L.ft d).dfl "_law_is_free" = f__law_is_free.dfl := by rw [Law.dfl_eq, Law.dflOf_eq L F__law_is_free]
theorem F__law_times : L.find "_law_times" = some f__law_times := by kernel_rfl
theorem D__law_times (d : Nat) : (L.ft d).dfl "_law_times" = f__law_times.dfl := by rw [Law.dfl_eq, Law.dflOf_eq L F__law_times]
theorem F__law_product : L.find "_law_product" = some f__law_product := by kernel_rfl
theorem D__law_product (d : Nat) : (L.ft d).dfl "_law_product" = f__law_product.dfl := by rw [Law.dfl_eq, Law.dflOf_eq L F__law_product]
theorem F__law_plus : L.find "_law_plus" = some f__law_plus := by kernel_rfl
theorem D__law_plus (d : Nat) : (L.ft d).dfl "_law_plus" = f__law_plus.dfl := by rw [Law.dfl_eq, Law.dflOf_eq L F__law_plus]
theorem F__law_minus : L.find "_law_minus" = some f__law_minus := by kernel_rfl
theorem D__law_minus (d : Nat) : (L.ft d).dfl "_law_minus" = f__law_minus.dfl := by rw [Law.dfl_eq, Law.dflOf_eq L F__law_minus]
theorem F__law_free_sum : L.find "_law_free_sum" = some f__law_free_sum := by kernel_rfl
theorem D__law_free_sum (d : Nat) : (L.ft d).dfl "_law_free_sum" = f__law_free_sum.dfl := by rw [Law.dfl_eq, Law.dflOf_eq L F__law_free_sum]
theorem F__law_sums : L.find "_law_sums" = some f__law_sums := by kernel_rfl
theorem D__law_sums (d : Nat) : (L.ft d).dfl "_law_sums" = f__law_sums.dfl := by rw [Law.dfl_eq, Law.dflOf_eq L F__law_sums]
theorem F__law_same : L.find "_law_same" = some f__law_same := by kernel_rfl
theorem D__law_same (d : Nat) : (L.ft d).dfl "_law_same" = f__law_same.dfl := by rw [Law.dfl_eq, Law.dflOf_eq L F__law_same]
theorem F_checked_fault : L.find "checked_fault" = some f_checked_fault := by kernel_rfl
theorem D_checked_fault (d : Nat) : (L.ft d).dfl "checked_fault" = f_checked_fault.dfl := by rw [Law.dfl_eq, Law.dflOf_eq L F_checked_fault]
theorem F_checked_names : L.find "checked_names" = some f_checked_names := by kernel_rfl
theorem D_checked_names (d : Nat) : (L.ft d).dfl "checked_names" = f_checked_names.dfl := by rw [Law.dfl_eq, Law.dflOf_eq L F_checked_names]
theorem F_set_among : L.find "set_among" = some f_set_among := by kernel_rfl
theorem D_set_among (d : Nat) : (L.ft d).dfl "set_among" = f_set_among.dfl := by rw [Law.dfl_eq, Law.dflOf_eq L F_set_among]
theorem F_ordered : L.find "ordered" = some f_ordered := by kernel_rfl
theorem D_ordered (d : Nat) : (L.ft d).dfl "ordered" = f_ordered.dfl := by rw [Law.dfl_eq, Law.dflOf_eq L F_ordered]
theorem F_parts_of : L.find "parts_of" = some f_parts_of := by kernel_rfl
theorem D_parts_of (d : Nat) : (L.ft d).dfl "parts_of" = f_parts_of.dfl := by rw [Law.dfl_eq, Law.dflOf_eq L F_parts_of]
theorem F_times : L.find "times" = some f_times := by kernel_rfl
theorem D_times (d : Nat) : (L.ft d).dfl "times" = f_times.dfl := by rw [Law.dfl_eq, Law.dflOf_eq L F_times]
theorem F_minus : L.find "minus" = some f_minus := by kernel_rfl
theorem D_minus (d : Nat) : (L.ft d).dfl "minus" = f_minus.dfl := by rw [Law.dfl_eq, Law.dflOf_eq L F_minus]
theorem F_sum_over : L.find "sum_over" = some f_sum_over := by kernel_rfl
theorem D_sum_over (d : Nat) : (L.ft d).dfl "sum_over" = f_sum_over.dfl := by rw [Law.dfl_eq, Law.dflOf_eq L F_sum_over]
theorem F_is_less : L.find "is_less" = some f_is_less := by kernel_rfl
theorem D_is_less (d : Nat) : (L.ft d).dfl "is_less" = f_is_less.dfl := by rw [Law.dfl_eq, Law.dflOf_eq L F_is_less]
theorem F_first_unsafe : L.find "first_unsafe" = some f_first_unsafe := by kernel_rfl
theorem D_first_unsafe (d : Nat) : (L.ft d).dfl "first_unsafe" = f_first_unsafe.dfl := by rw [Law.dfl_eq, Law.dflOf_eq L F_first_unsafe]
theorem F_least_chance : L.find "least_chance" = some f_least_chance := by kernel_rfl
theorem D_least_chance (d : Nat) : (L.ft d).dfl "least_chance" = f_least_chance.dfl := by rw [Law.dfl_eq, Law.dflOf_eq L F_least_chance]
theorem F_is_safe : L.find "is_safe" = some f_is_safe := by kernel_rfl
theorem D_is_safe (d : Nat) : (L.ft d).dfl "is_safe" = f_is_safe.dfl := by rw [Law.dfl_eq, Law.dflOf_eq L F_is_safe]
theorem F__law_lies : L.find "_law_lies" = some f__law_lies := by kernel_rfl
theorem D__law_lies (d : Nat) : (L.ft d).dfl "_law_lies" = f__law_lies.dfl := by rw [Law.dfl_eq, Law.dflOf_eq L F__law_lies]
theorem F__law_least : L.find "_law_least" = some f__law_least := by kernel_rfl
theorem D__law_least (d : Nat) : (L.ft d).dfl "_law_least" = f__law_least.dfl := by rw [Law.dfl_eq, Law.dflOf_eq L F__law_least]
theorem F_System_shares : L.find "System.shares" = some f_System_shares := by kernel_rfl
theorem D_System_shares (d : Nat) : (L.ft d).dfl "System.shares" = f_System_shares.dfl := by rw [Law.dfl_eq, Law.dflOf_eq L F_System_shares]
theorem F_System_links : L.find "System.links" = some f_System_links := by kernel_rfl
theorem D_System_links (d : Nat) : (L.ft d).dfl "System.links" = f_System_links.dfl := by rw [Law.dfl_eq, Law.dflOf_eq L F_System_links]
theorem C_SIGNS (d : Nat) : (L.ft d).con "SIGNS" = some (.str "abcdefghijklmnopqrstuvwxyz") := by rw [Law.con_eq]; rfl
theorem C_FIGURES (d : Nat) : (L.ft d).con "FIGURES" = some (.str "0123456789") := by rw [Law.con_eq]; rfl
theorem C_ONE (d : Nat) : (L.ft d).con "ONE" = some (frac 1) := by rw [Law.con_eq]; rfl
theorem C_ZERO (d : Nat) : (L.ft d).con "ZERO" = some (frac 0) := by rw [Law.con_eq]; rfl
theorem L_System_worths (d : Nat) : ((L.ft d).flds "System").contains "worths" = true := by rw [Law.flds_eq]; kernel_rfl
theorem L_System_ties (d : Nat) : ((L.ft d).flds "System").contains "ties" = true := by rw [Law.flds_eq]; kernel_rfl
theorem L_System_beside (d : Nat) : ((L.ft d).flds "System").contains "beside" = true := by rw [Law.flds_eq]; kernel_rfl
theorem I_System (d : Nat) : (L.ft d).its "System" = some ("worths" : Str) := by rw [Law.its_eq]; kernel_rfl
theorem H__law_spring : ∀ d, 1 ≤ d → Has (L.ft d) "_law_spring" (SpringS) := Law.has F__law_spring (k := 0) fun d hd => spring_ok
theorem H__law_take : ∀ d, 1 ≤ d → Has (L.ft d) "_law_take" (TakeS) := Law.has F__law_take (k := 0) fun d hd => take_ok _
theorem H__law_one : ∀ d, 2 ≤ d → Has (L.ft d) "_law_one" (OneS) := Law.has F__law_one (k := 1) fun d hd => one_okL (H__law_take d (by omega)) (D__law_take d)
theorem H__law_rising : ∀ d, 1 ≤ d → Has (L.ft d) "_law_rising" (RisingS) := Law.has F__law_rising (k := 0) fun d hd => lawrising_ok
theorem H__law_one_s : ∀ d, 2 ≤ d → Has (L.ft d) "_law_one" (OneStrS) := Law.has F__law_one (k := 1) fun d hd => onestr_ok (H__law_take d (by omega)) (D__law_take d)
theorem H__law_name : ∀ d, 3 ≤ d → Has (L.ft d) "_law_name" (NameS) := Law.has F__law_name (k := 2) fun d hd => name_ok (H__law_take d (by omega)) (H__law_one d (by omega)) (H__law_one_s d (by omega)) (D__law_take d) (D__law_one d)
theorem H__law_names : ∀ d, 4 ≤ d → Has (L.ft d) "_law_names" (NamesS) := Law.has F__law_names (k := 3) fun d hd => names_ok (H__law_name d (by omega)) (D__law_name d)
theorem H__law_lowest : ∀ d, 1 ≤ d → Has (L.ft d) "_law_lowest" (LowS) := Law.has F__law_lowest (k := 0) fun d hd => lawlow_ok _
theorem H__law_share : ∀ d, 3 ≤ d → Has (L.ft d) "_law_share" (ShareS) := Law.has F__law_share (k := 2) fun d hd => share_ok (H__law_take d (by omega)) (H__law_one d (by omega)) (H__law_lowest d (by omega)) (D__law_take d) (D__law_one d) (D__law_lowest d)
theorem H__law_mixed : ∀ d, 2 ≤ d → Has (L.ft d) "_law_mixed" (MixedS) := Law.has F__law_mixed (k := 1) fun d hd => mixed_ok (H__law_take d (by omega)) (D__law_take d)
theorem H__law_links : ∀ d, 3 ≤ d → Has (L.ft d) "_law_links" (LinksS) := Law.has F__law_links (k := 2) fun d hd => links_ok (H__law_take d (by omega)) (H__law_mixed d (by omega)) (H__law_rising d (by omega)) (D__law_take d) (D__law_mixed d) (D__law_rising d)
theorem H__law_house : ∀ d, 5 ≤ d → Has (L.ft d) "_law_house" (HouseS) := Law.has F__law_house (k := 4) fun d hd => house_ok (H__law_rising d (by omega)) (H__law_names d (by omega)) (H__law_share d (by omega)) (H__law_links d (by omega)) (D__law_rising d) (D__law_names d) (D__law_share d) (D__law_links d)
theorem H__law_loose : ∀ d, 2 ≤ d → Has (L.ft d) "_law_loose" (LooseS) := Law.has F__law_loose (k := 1) fun d hd => loose_ok (H__law_take d (by omega)) (D__law_take d)
theorem H__law_handed : ∀ d, 3 ≤ d → Has (L.ft d) "_law_handed" (HandS) := Law.has F__law_handed (k := 2) fun d hd => handed_ok (H__law_take d (by omega)) (H__law_one d (by omega)) (D__law_take d) (D__law_one d)
theorem H_is_name : ∀ d, 1 ≤ d → Has (L.ft d) "is_name" (IsNameS) := Law.has F_is_name (k := 0) fun d hd => isname_ok (C_SIGNS d) (C_FIGURES d)
theorem H_is_integer : ∀ d, 1 ≤ d → Has (L.ft d) "is_integer" (IsIntS) := Law.has F_is_integer (k := 0) fun d hd => isint_ok
theorem H_is_list : ∀ d, 1 ≤ d → Has (L.ft d) "is_list" (IsListS) := Law.has F_is_list (k := 0) fun d hd => islist_ok
theorem H_lowest_s : ∀ d, 1 ≤ d → Has (L.ft d) "lowest" (LowS) := Law.has F_lowest (k := 0) fun d hd => (low_ok _).s
theorem H_fraction_of : ∀ d, 2 ≤ d → Has (L.ft d) "fraction_of" (FracOfS) := Law.has F_fraction_of (k := 1) fun d hd => fracof_ok (H_is_integer d (by omega)) (H_is_list d (by omega)) (H_lowest_s d (by omega)) (D_is_integer d) (D_is_list d) (D_lowest d)
theorem H_size_of : ∀ d, 3 ≤ d → Has (L.ft d) "size_of" (SizeOfS) := Law.has F_size_of (k := 2) fun d hd => sizeof_ok (H_fraction_of d (by omega)) (D_fraction_of d)
theorem H_share_of : ∀ d, 4 ≤ d → Has (L.ft d) "share_of" (ShareOfS) := Law.has F_share_of (k := 3) fun d hd => shareof_ok (H_size_of d (by omega)) (D_size_of d)
theorem H_rising : ∀ d, 1 ≤ d → Has (L.ft d) "rising" (RisingS) := Law.has F_rising (k := 0) fun d hd => rising_ok
theorem H_is_among : ∀ d, 1 ≤ d → Has (L.ft d) "is_among" (AmongS) := Law.has F_is_among (k := 0) fun d hd => among_ok
theorem H_checked_links : ∀ d, 2 ≤ d → Has (L.ft d) "checked_links" (ChLinksS) := Law.has F_checked_links (k := 1) fun d hd => chlinks_ok (H_is_list d (by omega)) (H_is_among d (by omega)) (H_rising d (by omega)) (D_is_list d) (D_is_among d) (D_rising d)
theorem H_partners : ∀ d, 2 ≤ d → Has (L.ft d) "partners" (PartS) := Law.has F_partners (k := 1) fun d hd => part_ok (H_rising d (by omega)) (D_rising d)
theorem H_System___init__ : ∀ d, 5 ≤ d → Has (L.ft d) "System.__init__" (InitS) := Law.has F_System___init__ (k := 4) fun d hd => init_ok (H_is_name d (by omega)) (H_share_of d (by omega)) (H_rising d (by omega)) (H_checked_links d (by omega)) (H_partners d (by omega)) (D_is_name d) (D_share_of d) (D_rising d) (D_checked_links d) (D_partners d) (L_System_worths d) (L_System_ties d) (L_System_beside d)
theorem H__law_made : ∀ d, 6 ≤ d → Has (L.ft d) "_law_made" (MadeS) := Law.has F__law_made (k := 5) fun d hd => made_ok (H__law_take d (by omega)) (H__law_mixed d (by omega)) (H__law_loose d (by omega)) (H__law_handed d (by omega)) (H_System___init__ d (by omega)) (D__law_take d) (D__law_mixed d) (D__law_loose d) (D__law_handed d) (congrArg (List.drop 1) (D_System___init__ d))
theorem H__law_parts : ∀ d, 1 ≤ d → Has (L.ft d) "_law_parts" (PartsS) := Law.has F__law_parts (k := 0) fun d hd => lawparts_ok
theorem H__law_is_free : ∀ d, 1 ≤ d → Has (L.ft d) "_law_is_free" (IsFreeS) := Law.has F__law_is_free (k := 0) fun d hd => isfree_ok
theorem H__law_times : ∀ d, 2 ≤ d → Has (L.ft d) "_law_times" (BinS (· * ·)) := Law.has F__law_times (k := 1) fun d hd => lawtimes_ok (H__law_lowest d (by omega)) (D__law_lowest d)
theorem H__law_product : ∀ d, 3 ≤ d → Has (L.ft d) "_law_product" (ProdS) := Law.has F__law_product (k := 2) fun d hd => product_ok (H__law_times d (by omega)) (D__law_times d)
theorem H__law_plus : ∀ d, 2 ≤ d → Has (L.ft d) "_law_plus" (BinS (· + ·)) := Law.has F__law_plus (k := 1) fun d hd => lawplus_ok (H__law_lowest d (by omega)) (D__law_lowest d)
theorem H__law_minus : ∀ d, 2 ≤ d → Has (L.ft d) "_law_minus" (BinS (· - ·)) := Law.has F__law_minus (k := 1) fun d hd => lawminus_ok (H__law_lowest d (by omega)) (D__law_lowest d)
theorem H__law_free_sum : ∀ d, 4 ≤ d → Has (L.ft d) "_law_free_sum" (FreeSumL) := Law.has F__law_free_sum (k := 3) fun d hd => freesumL_ok (H__law_parts d (by omega)) (H__law_is_free d (by omega)) (H__law_product d (by omega)) (H__law_plus d (by omega)) (H__law_minus d (by omega)) (D__law_parts d) (D__law_is_free d) (D__law_product d) (D__law_plus d) (D__law_minus d)
theorem H__law_sums : ∀ d, 5 ≤ d → Has (L.ft d) "_law_sums" (SumsS) := Law.has F__law_sums (k := 4) fun d hd => sums_ok (H__law_parts d (by omega)) (H__law_rising d (by omega)) (H__law_free_sum d (by omega)) (D__law_parts d) (D__law_rising d) (D__law_free_sum d)
theorem H__law_loose_t : ∀ d, 2 ≤ d → Has (L.ft d) "_law_loose" (LooseTS) := Law.has F__law_loose (k := 1) fun d hd => looseT_ok (H__law_take d (by omega)) (D__law_take d)
theorem H__law_same : ∀ m, m ≤ 6 → ∀ d, m + 1 ≤ d → Has (L.ft d) "_law_same" (SameS m) := by
  intro m
  induction m with
  | zero => exact fun hm => Law.has F__law_same (k := 0) fun d hd => same_ok (fun m h => by omega) (D__law_same d)
  | succ m ih =>
    intro hm d hd
    exact Law.has F__law_same (k := m + 1) (fun d hd => same_ok (fun m' h => by cases h; exact ih (by omega) d (by omega)) (D__law_same d)) d (by omega)
theorem H_checked_fault : ∀ d, 2 ≤ d → Has (L.ft d) "checked_fault" (CheckedS) := Law.has F_checked_fault (k := 1) fun d hd => checked_ok (H_is_among d (by omega)) (D_is_among d)
theorem H_checked_names : ∀ d, 3 ≤ d → Has (L.ft d) "checked_names" (ChNamesS) := Law.has F_checked_names (k := 2) fun d hd => chnames_ok (H_checked_fault d (by omega)) (H_rising d (by omega)) (D_checked_fault d) (D_rising d)
theorem H_set_among : ∀ d, 4 ≤ d → Has (L.ft d) "set_among" (AmongSetS) := Law.has F_set_among (k := 3) fun d hd => setamong_ok (H_checked_names d (by omega)) (D_checked_names d) (L_System_worths d) (I_System d)
theorem H_ordered : ∀ d, 1 ≤ d → Has (L.ft d) "ordered" (OrdS) := Law.has F_ordered (k := 0) fun d hd => ord_ok
theorem H_parts_of : ∀ d, 2 ≤ d → Has (L.ft d) "parts_of" (PartsOfS) := Law.has F_parts_of (k := 1) fun d hd => partsof_ok (H_ordered d (by omega)) (D_ordered d)
theorem H_times : ∀ d, 2 ≤ d → Has (L.ft d) "times" (BinS (· * ·)) := Law.has F_times (k := 1) fun d hd => times_ok (H_lowest_s d (by omega)) (D_lowest d)
theorem H_minus : ∀ d, 2 ≤ d → Has (L.ft d) "minus" (BinS (· - ·)) := Law.has F_minus (k := 1) fun d hd => minus_ok (H_lowest_s d (by omega)) (D_lowest d)
theorem H_sum_over : ∀ m, m ≤ 10 → ∀ d, m + 3 ≤ d → Has (L.ft d) "sum_over" (SumS m) := by
  intro m
  induction m with
  | zero => exact fun hm => Law.has F_sum_over (k := 2) fun d hd => sumover_ok (by omega) (fun m h => by omega) (H_times d (by omega)) (H_minus d (by omega)) (D_sum_over d) (D_times d) (D_minus d) (C_ONE d) (L_System_worths d) (L_System_beside d)
  | succ m ih =>
    intro hm d hd
    exact Law.has F_sum_over (k := m + 3) (fun d hd => sumover_ok (by omega) (fun m' h => by cases h; exact ih (by omega) d (by omega)) (H_times d (by omega)) (H_minus d (by omega)) (D_sum_over d) (D_times d) (D_minus d) (C_ONE d) (L_System_worths d) (L_System_beside d)) d (by omega)
theorem H_is_less : ∀ d, 1 ≤ d → Has (L.ft d) "is_less" (LessS) := Law.has F_is_less (k := 0) fun d hd => less_ok
theorem H_first_unsafe : ∀ d, 14 ≤ d → Has (L.ft d) "first_unsafe" (FirstS) := Law.has F_first_unsafe (k := 13) fun d hd => first_ok (H_parts_of d (by omega)) (H_sum_over (10) (by omega) d (by omega)) (H_is_less d (by omega)) (D_parts_of d) (D_sum_over d) (D_is_less d) (C_ZERO d)
theorem H_least_chance : ∀ d, 15 ≤ d → Has (L.ft d) "least_chance" (LeastCS) := Law.has F_least_chance (k := 14) fun d hd => least_ok (H_set_among d (by omega)) (H_first_unsafe d (by omega)) (H_sum_over (10) (by omega) d (by omega)) (D_set_among d) (D_first_unsafe d) (D_sum_over d) (C_ZERO d)
theorem H_is_safe : ∀ d, 15 ≤ d → Has (L.ft d) "is_safe" (IsSafeS) := Law.has F_is_safe (k := 14) fun d hd => safe_ok (H_set_among d (by omega)) (H_first_unsafe d (by omega)) (D_set_among d) (D_first_unsafe d)
theorem H__law_lies : ∀ d, 1 ≤ d → Has (L.ft d) "_law_lies" (LiesS) := Law.has F__law_lies (k := 0) fun d hd => lies_ok
theorem H__law_least : ∀ d, 2 ≤ d → Has (L.ft d) "_law_least" (LeastLS) := Law.has F__law_least (k := 1) fun d hd => leastL_ok (H__law_lies d (by omega)) (D__law_lies d)
theorem H_System_shares : ∀ d, 1 ≤ d → Has (L.ft d) "System.shares" (SharesMS) := Law.has F_System_shares (k := 0) fun d hd => sharesM_ok (L_System_worths d)
theorem H_System_links : ∀ d, 1 ≤ d → Has (L.ft d) "System.links" (LinksMS) := Law.has F_System_links (k := 0) fun d hd => linksM_ok (L_System_ties d)
theorem good : L.good 16 f_law := law_ok (H__law_spring 15 (by omega)) (H__law_take 15 (by omega)) (H__law_one 15 (by omega)) (H__law_house 15 (by omega)) (H__law_made 15 (by omega)) (H__law_sums 15 (by omega)) (H__law_loose_t 15 (by omega)) (H__law_mixed 15 (by omega)) (H__law_same 3 (by omega) 15 (by omega)) (H_least_chance 15 (by omega)) (H_is_safe 15 (by omega)) (H__law_least 15 (by omega)) (H__law_rising 15 (by omega)) (H_System_shares 15 (by omega)) (H_System_links 15 (by omega)) (D__law_spring _) (D__law_take _) (D__law_one _) (D__law_house _) (D__law_made _) (D__law_sums _) (D__law_loose _) (D__law_mixed _) (D__law_same _) (D_least_chance _) (D_is_safe _) (D__law_least _) (D__law_rising _) (D_System_shares _) (D_System_links _)
end Rf.K15
theorem PySem.Challenge.cw_linkedfaults_k15_whole_least_chances_holds : PySem.Challenge.rw_linkedfaults_k15_whole_least_chances.Holds :=
  Rf.K15.close 16 ⟨by decide, by decide +kernel, by decide +kernel⟩ Rf.K15.good
end
