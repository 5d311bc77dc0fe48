import PyProof.Rows.All
import PySem.Challenge.RW_standsmore_k12_whole_rows
import Wide.All
import OpenK.AllK
import Wide.FinOn
import KE.DataEq
import KE.GoesNew
import HandS.ForMost
import HandS.Flow
import HandS.IsInst
import HandS.Wide
import HandS.Conv
import KE.KMathG
import HandS.More
import HandS.Style
import HandS.Defaults
import HandS.Head0
import HandS.Head1
import HandS.Head2
import HandS.Head3
import HandS.HeadEnd
import HandS.HeadHook1
import HandS.HeadHook2
import HandS.HeadHook3
import HandS.HeadHook4
set_option Elab.async false
set_option linter.all false
set_option maxRecDepth 100000
set_option maxHeartbeats 0

namespace Rf
open PySem PySem.Spec L2

/-- a value of the reflected program -/
inductive W where
  | non
  | bl (b : Bool)
  | int (i : Int)
  | str (x : Str)
  | tup (xs : List W)
  | lst (xs : List W)
  | ro (xs : List W)
  | loc (n : Nat)
  | edict

abbrev Store := List (Option (List W))
abbrev Env := List (Option W)

/-- a world: the abstract heap, the locked addresses, the cells' addresses -/
structure Wd where
  H : Hp
  o : Addr → Prop
  as : List Addr

def noH : Hp := fun _ => none
def LstAt (ω : Wd) (a : Addr) (vs : List V) : Prop := ω.H a = some (.lst vs) ∧ ¬ ω.o a
def RoAt (K : PySem.W.Frag) (ω : Wd) (a : Addr) (vs : List V) : Prop := (Rd ω.H a (.lst vs) ∧ ¬ ω.o a) ∨ SqL K noH a vs
def TupAt (K : PySem.W.Frag) (ω : Wd) (a : Addr) (vs : List V) : Prop := (Rd ω.H a (.tup vs) ∧ ¬ ω.o a) ∨ SqT K noH a vs

theorem sqL_no {K : PySem.W.Frag} {H : Hp} {a : Addr} {vs : List V} (h : SqL K noH a vs) : SqL K H a vs := by
  rcases h with (h | ⟨_, h⟩) | h
  · exact nomatch (show (none : Option HO) = some _ from h)
  · exact nomatch (show (none : Option HO) = some _ from h)
  · exact .inr h
theorem sqT_no {K : PySem.W.Frag} {H : Hp} {a : Addr} {vs : List V} (h : SqT K noH a vs) : SqT K H a vs := by
  rcases h with (h | ⟨_, h⟩) | h
  · exact nomatch (show (none : Option HO) = some _ from h)
  · exact nomatch (show (none : Option HO) = some _ from h)
  · exact .inr h
theorem LstAt.sq {K : PySem.W.Frag} {ω : Wd} {a : Addr} {vs : List V} (h : LstAt ω a vs) : SqL K ω.H a vs := .inl (.inl h.1)
theorem RoAt.sq {K : PySem.W.Frag} {ω : Wd} {a : Addr} {vs : List V} (h : RoAt K ω a vs) : SqL K ω.H a vs := by
  rcases h with ⟨h, _⟩ | h
  · exact .inl h
  · exact sqL_no h
theorem TupAt.sq {K : PySem.W.Frag} {ω : Wd} {a : Addr} {vs : List V} (h : TupAt K ω a vs) : SqT K ω.H a vs := by
  rcases h with ⟨h, _⟩ | h
  · exact .inl h
  · exact sqT_no h

mutual
inductive Rp (K : PySem.W.Frag) (ω : Wd) : V → W → Prop
  | non : Rp K ω .non .non
  | bl (b : Bool) : Rp K ω (.bl b) (.bl b)
  | int (i : Int) : Rp K ω (.int i) (.int i)
  | str (x : Str) : Rp K ω (.str x) (.str x)
  | tup {a : Addr} {vs : List V} {ds : List W} : TupAt K ω a vs → Rps K ω vs ds → Rp K ω (.ref a) (.tup ds)
  | lst {a : Addr} {vs : List V} {ds : List W} : LstAt ω a vs → Rps K ω vs ds → Rp K ω (.ref a) (.lst ds)
  | ro {a : Addr} {vs : List V} {ds : List W} : RoAt K ω a vs → Rps K ω vs ds → Rp K ω (.ref a) (.ro ds)
  | loc {n : Nat} {a : Addr} : ω.as[n]? = some a → Rp K ω (.ref a) (.loc n)
  | edict {a : Addr} : ω.H a = some (.dK []) → ¬ ω.o a → Rp K ω (.ref a) .edict
inductive Rps (K : PySem.W.Frag) (ω : Wd) : List V → List W → Prop
  | nil : Rps K ω [] []
  | cons {v : V} {d : W} {vs : List V} {ds : List W} : Rp K ω v d → Rps K ω vs ds → Rps K ω (v :: vs) (d :: ds)
end

/-- a later world -/
structure Ext (ω1 ω2 : Wd) : Prop where
  keep : ∀ a x, ω1.H a = some x → (a ∉ ω1.as ∨ ¬ ω1.o a) → ω2.H a = some x
  dom : ∀ a, ω2.H a = none → ω1.H a = none
  blk : ∀ a, ω2.o a → ω1.o a ∨ ω1.H a = none
  unb : ∀ a, ω1.o a → ω2.o a ∨ a ∈ ω1.as
  new : ∀ (n : Nat) a, ω1.as.length ≤ n → ω2.as[n]? = some a → ω1.H a = none
  pre : ∀ (n : Nat) a, ω1.as[n]? = some a → ω2.as[n]? = some a

abbrev Tr (ω : Wd) : Prop := ∀ a, ω.o a → ∃ vs, ω.H a = some (.lst vs)

theorem Ext.refl (ω : Wd) : Ext ω ω where
  keep := fun _ _ h _ => h
  dom := fun _ h => h
  blk := fun _ h => .inl h
  unb := fun _ h => .inl h
  new := fun n a h e => by rw [List.getElem?_eq_none h] at e; cases e
  pre := fun _ _ h => h

theorem Ext.mem {ω1 ω2 : Wd} (e : Ext ω1 ω2) {a : Addr} (h : a ∈ ω2.as) : a ∈ ω1.as ∨ ω1.H a = none := by
  obtain ⟨n, hn, rfl⟩ := List.mem_iff_getElem.mp h
  by_cases hl : n < ω1.as.length
  · have h1 := e.pre n ω1.as[n] (List.getElem?_eq_getElem hl)
    rw [List.getElem?_eq_getElem hn] at h1
    rw [Option.some.inj h1]
    exact .inl (List.getElem_mem hl)
  · exact .inr (e.new n _ (Nat.le_of_not_lt hl) (List.getElem?_eq_getElem hn))

theorem Ext.trans {ω1 ω2 ω3 : Wd} (t : Tr ω1) (e : Ext ω1 ω2) (f : Ext ω2 ω3) : Ext ω1 ω3 where
  keep := fun a x h hk => by
    refine f.keep a x (e.keep a x h hk) ?_
    rcases hk with hk | hk
    · refine .inl fun z => ?_
      rcases e.mem z with z | z
      · exact hk z
      · rw [z] at h; cases h
    · refine .inr fun z => ?_
      rcases e.blk a z with z | z
      · exact hk z
      · rw [z] at h; cases h
  dom := fun a h => e.dom a (f.dom a h)
  blk := fun a h => by
    rcases f.blk a h with h | h
    · exact e.blk a h
    · exact .inr (e.dom a h)
  unb := fun a h => by
    rcases e.unb a h with z | z
    · rcases f.unb a z with z | z
      · exact .inl z
      · rcases e.mem z with z | z
        · exact .inr z
        · obtain ⟨vs, q⟩ := t a h
          rw [z] at q; cases q
    · exact .inr z
  new := fun n a h q => by
    by_cases hl : n < ω2.as.length
    · have q2 := f.pre n ω2.as[n] (List.getElem?_eq_getElem hl)
      rw [q] at q2
      have := Option.some.inj q2
      exact e.new n a h (by rw [this]; exact List.getElem?_eq_getElem hl)
    · exact e.dom a (f.new n a (Nat.le_of_not_lt hl) q)
  pre := fun n a h => f.pre n a (e.pre n a h)

section
variable {K : PySem.W.Frag} {ω ω1 ω2 ω3 : Wd}
theorem Ext.rd (e : Ext ω1 ω2) {a : Addr} {u : HO} (h : Rd ω1.H a u) (no : ¬ ω1.o a) : Rd ω2.H a u ∧ ¬ ω2.o a := by
  refine ⟨?_, fun z => ?_⟩
  · rcases h with h | ⟨o, h⟩
    · exact .inl (e.keep a _ h (.inr no))
    · exact .inr ⟨o, e.keep a _ h (.inr no)⟩
  · rcases e.blk a z with z | z
    · exact no z
    · rcases h with h | ⟨o, h⟩ <;> (rw [z] at h; cases h)
theorem LstAt.mono (e : Ext ω1 ω2) {a : Addr} {vs : List V} (h : LstAt ω1 a vs) : LstAt ω2 a vs :=
  ⟨e.keep a _ h.1 (.inr h.2), (e.rd (.inl h.1) h.2).2⟩
theorem RoAt.mono (e : Ext ω1 ω2) {a : Addr} {vs : List V} (h : RoAt K ω1 a vs) : RoAt K ω2 a vs := by
  rcases h with ⟨h, no⟩ | h
  · exact .inl (e.rd h no)
  · exact .inr h
theorem TupAt.mono (e : Ext ω1 ω2) {a : Addr} {vs : List V} (h : TupAt K ω1 a vs) : TupAt K ω2 a vs := by
  rcases h with ⟨h, no⟩ | h
  · exact .inl (e.rd h no)
  · exact .inr h
mutual
theorem Rp.mono (e : Ext ω1 ω2) : ∀ {v : V} {d : W}, Rp K ω1 v d → Rp K ω2 v d
  | _, _, .non => .non
  | _, _, .bl b => .bl b
  | _, _, .int i => .int i
  | _, _, .str x => .str x
  | _, _, .tup h r => .tup (h.mono e) (Rps.mono e r)
  | _, _, .lst h r => .lst (h.mono e) (Rps.mono e r)
  | _, _, .ro h r => .ro (h.mono e) (Rps.mono e r)
  | _, _, .loc h => .loc (e.pre _ _ h)
  | _, _, .edict h no => .edict (e.keep _ _ h (.inr no)) (fun z => by
      rcases e.blk _ z with z | z
      · exact no z
      · rw [z] at h; cases h)
theorem Rps.mono (e : Ext ω1 ω2) : ∀ {vs : List V} {ds : List W}, Rps K ω1 vs ds → Rps K ω2 vs ds
  | _, _, .nil => .nil
  | _, _, .cons h r => .cons (Rp.mono e h) (Rps.mono e r)
end

/-! ### lists of values -/
theorem Rps.length : ∀ {vs : List V} {ds : List W}, Rps K ω vs ds → vs.length = ds.length
  | _, _, .nil => rfl
  | _, _, .cons _ r => by simp [Rps.length r]
theorem Rps.get : ∀ {vs : List V} {ds : List W} {i : Nat} {d : W}, Rps K ω vs ds → ds[i]? = some d → ∃ v, vs[i]? = some v ∧ Rp K ω v d
  | _, _, _, _, .nil, h => by simp at h
  | _, _, 0, _, .cons h _, e => by simp at e; subst e; exact ⟨_, rfl, h⟩
  | _, _, i + 1, d, .cons _ r, e => by
    obtain ⟨v, h1, h2⟩ := Rps.get (i := i) (d := d) r (by simpa using e)
    exact ⟨v, by simpa using h1, h2⟩
theorem Rps.getV : ∀ {vs : List V} {ds : List W} {i : Nat} {v : V}, Rps K ω vs ds → vs[i]? = some v → ∃ d, ds[i]? = some d ∧ Rp K ω v d
  | _, _, _, _, .nil, h => by simp at h
  | _, _, 0, _, .cons h _, e => by simp at e; subst e; exact ⟨_, rfl, h⟩
  | _, _, i + 1, v, .cons _ r, e => by
    obtain ⟨d, h1, h2⟩ := Rps.getV (i := i) (v := v) r (by simpa using e)
    exact ⟨d, by simpa using h1, h2⟩
theorem Rps.append : ∀ {vs us : List V} {ds es : List W}, Rps K ω vs ds → Rps K ω us es → Rps K ω (vs ++ us) (ds ++ es)
  | _, _, _, _, .nil, s => s
  | _, _, _, _, .cons h r, s => .cons h (Rps.append r s)
theorem Rps.one {v : V} {d : W} (h : Rp K ω v d) : Rps K ω [v] [d] := .cons h .nil
theorem Rps.take : ∀ {vs : List V} {ds : List W} (n : Nat), Rps K ω vs ds → Rps K ω (vs.take n) (ds.take n)
  | _, _, 0, _ => .nil
  | _, _, _ + 1, .nil => .nil
  | _, _, n + 1, .cons h r => .cons h (Rps.take n r)
theorem Rps.drop : ∀ {vs : List V} {ds : List W} (n : Nat), Rps K ω vs ds → Rps K ω (vs.drop n) (ds.drop n)
  | _, _, 0, r => r
  | _, _, _ + 1, .nil => .nil
  | _, _, n + 1, .cons _ r => Rps.drop n r
theorem Rps.set {v : V} {d : W} (h : Rp K ω v d) : ∀ {vs : List V} {ds : List W} (n : Nat), Rps K ω vs ds → Rps K ω (vs.set n v) (ds.set n d)
  | _, _, _, .nil => .nil
  | _, _, 0, .cons _ r => .cons h r
  | _, _, n + 1, .cons q r => .cons q (Rps.set h n r)
theorem Rps.reverse {vs : List V} {ds : List W} (r : Rps K ω vs ds) : Rps K ω vs.reverse ds.reverse := by
  induction vs generalizing ds with
  | nil => cases r; exact .nil
  | cons v vs ih =>
    cases r with
    | cons h r =>
      rw [List.reverse_cons, List.reverse_cons]
      exact (ih r).append (.one h)
theorem Rps.flat : ∀ {vs : List V} {ds : List W} (n : Nat), Rps K ω vs ds → Rps K ω (List.replicate n vs).flatten (List.replicate n ds).flatten
  | _, _, 0, _ => .nil
  | _, _, n + 1, r => by
    rw [List.replicate_succ, List.replicate_succ, List.flatten_cons, List.flatten_cons]
    exact r.append (Rps.flat n r)
theorem Rps.erase : ∀ {vs : List V} {ds : List W} (n : Nat), Rps K ω vs ds → Rps K ω (vs.eraseIdx n) (ds.eraseIdx n)
  | _, _, _, .nil => .nil
  | _, _, 0, .cons _ r => r
  | _, _, n + 1, .cons h r => .cons h (Rps.erase n r)
end

/-! ### stores -/
structure SR (K : PySem.W.Frag) (ω : Wd) (S : Store) : Prop where
  len : ω.as.length = S.length
  live : ∀ (n : Nat) ds, S[n]? = some (some ds) → ∃ a vs, ω.as[n]? = some a ∧ ω.H a = some (.lst vs) ∧ ω.o a ∧ Rps K ω vs ds
  inj : ∀ (n m : Nat) ds es a, S[n]? = some (some ds) → S[m]? = some (some es) → ω.as[n]? = some a → ω.as[m]? = some a → n = m
  tr : Tr ω
  cel : ∀ a ∈ ω.as, ω.H a ≠ none

structure ER (K : PySem.W.Frag) (ω : Wd) (σ : St) (env : Env) : Prop where
  len : env.length = σ.length
  at_ : ∀ (i : Nat) w, env[i]? = some (some w) → ∃ v, σ[i]? = some (some v) ∧ Rp K ω v w
theorem ER.mono {K : PySem.W.Frag} {ω1 ω2 : Wd} {σ : St} {env : Env} (e : Ext ω1 ω2) (h : ER K ω1 σ env) : ER K ω2 σ env :=
  ⟨h.len, fun i w q => let ⟨v, a, b⟩ := h.at_ i w q; ⟨v, a, b.mono e⟩⟩
theorem ER.set {K : PySem.W.Frag} {ω : Wd} {σ : St} {env : Env} {i : Nat} {v : V} {w : W} (h : ER K ω σ env) (r : Rp K ω v w) : ER K ω (σ.set i (some v)) (env.set i (some w)) := by
  refine ⟨by simp [h.len], fun j u e => ?_⟩
  by_cases hj : i = j
  · subst hj
    by_cases hi : i < env.length
    · rw [List.getElem?_set_self hi] at e
      have e' := Option.some.inj (Option.some.inj e)
      subst e'
      exact ⟨v, List.getElem?_set_self (by rw [← h.len]; exact hi), r⟩
    · rw [List.getElem?_eq_none (by simpa using hi)] at e; cases e
  · rw [List.getElem?_set_ne hj] at e
    obtain ⟨u', a, b⟩ := h.at_ j u e
    exact ⟨u', by rw [List.getElem?_set_ne hj]; exact a, b⟩

/-- a new result: a list that nothing else names -/
def Fresh (K : PySem.W.Frag) (ω1 ω2 : Wd) (v : V) (d : W) : Prop :=
  ∃ a vs ds, v = .ref a ∧ d = .lst ds ∧ ω1.H a = none ∧ ω2.o a ∧ a ∉ ω2.as ∧ ω2.H a = some (.lst vs) ∧ Rps K ω2 vs ds
def Post (K : PySem.W.Frag) (fr : Bool) (ω1 ω2 : Wd) (v : V) (d : W) : Prop := if fr = true then Fresh K ω1 ω2 v d else Rp K ω2 v d

/-- a locked address let go -/
def Wd.rel (ω : Wd) (a : Addr) : Wd := { ω with o := fun b => ω.o b ∧ b ≠ a }
theorem Ext.rel {ω1 ω2 : Wd} {a : Addr} (t : Tr ω1) (e : Ext ω1 ω2) (h : ω1.H a = none) : Ext ω1 (ω2.rel a) where
  keep := e.keep
  dom := e.dom
  blk := fun b z => e.blk b z.1
  unb := fun b z => by
    rcases e.unb b z with q | q
    · exact .inl ⟨q, fun y => by subst y; obtain ⟨vs, q⟩ := t _ z; rw [h] at q; cases q⟩
    · exact .inr q
  new := e.new
  pre := e.pre
section
variable {K : PySem.W.Frag}
theorem LstAt.rel {ω : Wd} {a b : Addr} {vs : List V} (h : LstAt ω a vs) : LstAt (ω.rel b) a vs := ⟨h.1, fun z => h.2 z.1⟩
theorem RoAt.rel {ω : Wd} {a b : Addr} {vs : List V} (h : RoAt K ω a vs) : RoAt K (ω.rel b) a vs := by
  rcases h with ⟨h, no⟩ | h
  · exact .inl ⟨h, fun z => no z.1⟩
  · exact .inr h
theorem TupAt.rel {ω : Wd} {a b : Addr} {vs : List V} (h : TupAt K ω a vs) : TupAt K (ω.rel b) a vs := by
  rcases h with ⟨h, no⟩ | h
  · exact .inl ⟨h, fun z => no z.1⟩
  · exact .inr h
mutual
theorem Rp.rel {ω : Wd} {b : Addr} : ∀ {v : V} {d : W}, Rp K ω v d → Rp K (ω.rel b) v d
  | _, _, .non => .non
  | _, _, .bl b => .bl b
  | _, _, .int i => .int i
  | _, _, .str x => .str x
  | _, _, .tup h r => .tup h.rel (Rps.rel r)
  | _, _, .lst h r => .lst h.rel (Rps.rel r)
  | _, _, .ro h r => .ro h.rel (Rps.rel r)
  | _, _, .loc h => .loc h
  | _, _, .edict h no => .edict h fun z => no z.1
theorem Rps.rel {ω : Wd} {b : Addr} : ∀ {vs : List V} {ds : List W}, Rps K ω vs ds → Rps K (ω.rel b) vs ds
  | _, _, .nil => .nil
  | _, _, .cons h r => .cons (Rp.rel h) (Rps.rel r)
end
theorem SR.rel {ω : Wd} {S : Store} {a : Addr} (h : SR K ω S) (ha : a ∉ ω.as) : SR K (ω.rel a) S where
  len := h.len
  live := fun n ds q => by
    obtain ⟨b, vs, h1, h2, h3, h4⟩ := h.live n ds q
    refine ⟨b, vs, h1, h2, ⟨h3, fun z => ha ?_⟩, h4.rel⟩
    subst z
    exact List.mem_of_getElem? h1
  inj := h.inj
  tr := fun b z => h.tr b z.1
  cel := h.cel
/-- a fresh result as any -/
theorem Fresh.rp {ω1 ω2 : Wd} {v : V} {d : W} {S1 S2 : Store} (h1 : SR K ω1 S1) (e : Ext ω1 ω2) (h2 : SR K ω2 S2) (f : Fresh K ω1 ω2 v d) : ∃ ω3, ω3.H = ω2.H ∧ ω3.as = ω2.as ∧ Ext ω1 ω3 ∧ SR K ω3 S2 ∧ Rp K ω3 v d := by
  obtain ⟨a, vs, ds, rfl, rfl, hn, ho, ha, hh, r⟩ := f
  exact ⟨ω2.rel a, rfl, rfl, e.rel h1.tr hn, h2.rel ha, .lst ⟨hh, fun z => z.2 rfl⟩ r.rel⟩
theorem Post.rp {fr : Bool} {ω1 ω2 : Wd} {v : V} {d : W} {S1 S2 : Store} (h1 : SR K ω1 S1) (e : Ext ω1 ω2) (h2 : SR K ω2 S2) (f : Post K fr ω1 ω2 v d) : ∃ ω3, ω3.H = ω2.H ∧ ω3.as = ω2.as ∧ Ext ω1 ω3 ∧ SR K ω3 S2 ∧ Rp K ω3 v d := by
  unfold Post at f
  split at f
  · exact f.rp h1 e h2
  · exact ⟨ω2, rfl, rfl, e, h2, f⟩
end

/-! ### a new object -/
def Wd.new (ω : Wd) (p : Addr) (o : HO) : Wd := { ω with H := upd ω.H p o }
/-- a new list, locked -/
def Wd.newL (ω : Wd) (p : Addr) (vs : List V) : Wd := { ω with H := upd ω.H p (.lst vs), o := fun b => ω.o b ∨ b = p }
theorem Ext.new_ {ω : Wd} {p : Addr} {o : HO} (h : ω.H p = none) : Ext ω (ω.new p o) where
  keep := fun a x q _ => by show upd ω.H p o a = _; rw [upd_ne (ne_of_none q h)]; exact q
  dom := fun a q => by
    have q : upd ω.H p o a = none := q
    by_cases z : a = p
    · subst z; exact h
    · rwa [upd_ne z] at q
  blk := fun _ q => .inl q
  unb := fun _ q => .inl q
  new := fun n a q e => by
    have e : ω.as[n]? = some a := e
    rw [List.getElem?_eq_none q] at e; cases e
  pre := fun _ _ q => q
theorem Ext.newL {ω : Wd} {p : Addr} {vs : List V} (h : ω.H p = none) : Ext ω (ω.newL p vs) where
  keep := (Ext.new_ (o := .lst vs) h).keep
  dom := (Ext.new_ (o := .lst vs) h).dom
  blk := fun a q => by
    rcases q with q | q
    · exact .inl q
    · subst q; exact .inr h
  unb := fun _ q => .inl (.inl q)
  new := (Ext.new_ (o := .lst vs) h).new
  pre := fun _ _ q => q
section
variable {K : PySem.W.Frag} {ω : Wd} {S : Store}
theorem SR.of_ext {ω2 : Wd} (h : SR K ω S) (e : Ext ω ω2) (eas : ω2.as = ω.as) (keep : ∀ a ∈ ω.as, ω2.H a = ω.H a) (lk : ∀ a, ω.o a → ω2.o a) (tr : Tr ω2) : SR K ω2 S where
  len := by rw [eas]; exact h.len
  live := fun n ds q => by
    obtain ⟨a, vs, h1, h2, h3, h4⟩ := h.live n ds q
    exact ⟨a, vs, by rw [eas]; exact h1, by rw [keep a (List.mem_of_getElem? h1)]; exact h2, lk a h3, h4.mono e⟩
  inj := by rw [eas]; exact h.inj
  tr := tr
  cel := by
    rw [eas]
    intro a ha
    rw [keep a ha]
    exact h.cel a ha
theorem SR.new_ {p : Addr} {o : HO} (h : SR K ω S) (hp : ω.H p = none) : SR K (ω.new p o) S :=
  h.of_ext (Ext.new_ hp) rfl (fun a ha => upd_ne fun z => h.cel a ha (by rw [z]; exact hp)) (fun _ q => q) fun a q => by
    obtain ⟨vs, e⟩ := h.tr a q
    exact ⟨vs, by show upd ω.H p o a = _; rw [upd_ne (ne_of_none e hp)]; exact e⟩
theorem SR.newL {p : Addr} {vs : List V} (h : SR K ω S) (hp : ω.H p = none) : SR K (ω.newL p vs) S :=
  h.of_ext (Ext.newL hp) rfl (fun a ha => upd_ne fun z => h.cel a ha (by rw [z]; exact hp)) (fun _ q => .inl q) fun a q => by
    rcases q with q | q
    · obtain ⟨us, e⟩ := h.tr a q
      exact ⟨us, by show upd ω.H p _ a = _; rw [upd_ne (ne_of_none e hp)]; exact e⟩
    · subst q
      exact ⟨vs, upd_same⟩
theorem Rp.newT {p : Addr} {vs : List V} {ds : List W} (h : SR K ω S) (hp : ω.H p = none) (r : Rps K ω vs ds) : Rp K (ω.new p (.tup vs)) (.ref p) (.tup ds) :=
  .tup (.inl ⟨.inl upd_same, fun z => by obtain ⟨us, e⟩ := h.tr p z; rw [hp] at e; cases e⟩) (r.mono (Ext.new_ hp))
theorem Rp.newLst {p : Addr} {vs : List V} {ds : List W} (h : SR K ω S) (hp : ω.H p = none) (r : Rps K ω vs ds) : Rp K (ω.new p (.lst vs)) (.ref p) (.lst ds) :=
  .lst ⟨upd_same, fun z => by obtain ⟨us, e⟩ := h.tr p z; rw [hp] at e; cases e⟩ (r.mono (Ext.new_ hp))
theorem Fresh.newL {ω1 : Wd} {S1 : Store} {p : Addr} {vs : List V} {ds : List W} (h1 : SR K ω1 S1) (e : Ext ω1 ω) (h : SR K ω S) (hp : ω.H p = none) (r : Rps K ω vs ds) : Fresh K ω1 (ω.newL p vs) (.ref p) (.lst ds) :=
  ⟨p, vs, ds, rfl, rfl, e.dom p hp, .inr rfl, fun z => h.cel p z hp, upd_same, r.mono (Ext.newL hp)⟩
end
end Rf

namespace Rf
open PySem PySem.Spec L2

/-! ### data -/
mutual
/-- no cell within -/
def W.free : W → Bool
  | .non | .bl _ | .int _ | .str _ | .edict => true
  | .tup xs => W.frees xs
  | .lst xs => W.frees xs
  | .ro xs => W.frees xs
  | .loc _ => false
def W.frees : List W → Bool
  | [] => true
  | x :: xs => W.free x && W.frees xs
end
mutual
/-- plain data, nested at most n deep -/
def W.ok : Nat → W → Bool
  | _, .non | _, .bl _ | _, .int _ | _, .str _ => true
  | n + 1, .tup xs => W.oks n xs
  | n + 1, .lst xs => W.oks n xs
  | _, _ => false
def W.oks : Nat → List W → Bool
  | _, [] => true
  | n, x :: xs => W.ok n x && W.oks n xs
end
mutual
/-- == of plain data -/
def W.eqv : W → W → Bool
  | .non, .non => true
  | .bl a, .bl b => a == b
  | .bl a, .int j => (if a then 1 else 0) == j
  | .int i, .bl b => i == (if b then 1 else 0)
  | .int i, .int j => i == j
  | .str x, .str y => x == y
  | .lst xs, .lst ys => W.eqvs xs ys
  | .tup xs, .tup ys => W.eqvs xs ys
  | _, _ => false
def W.eqvs : List W → List W → Bool
  | [], [] => true
  | x :: xs, y :: ys => W.eqv x y && W.eqvs xs ys
  | _, _ => false
end
mutual
def W.py : W → PyData
  | .non => .none
  | .bl b => .bool b
  | .int i => .int i
  | .str x => .str x
  | .tup xs => .tuple (W.pys xs)
  | .lst xs => .list (W.pys xs)
  | _ => .none
def W.pys : List W → List PyData
  | [] => []
  | x :: xs => W.py x :: W.pys xs
end
/-- repr of a list, a tuple of plain data -/
def reprW (x : W) : Option W := match x with
  | .tup _ => if x.ok 40 = true ∧ x.py.showable = true ∧ x.py.hasDict = false ∧ x.py.shown.length ≤ sizeLine then some (.str x.py.shown) else none
  | .lst _ => if x.ok 40 = true ∧ x.py.showable = true ∧ x.py.hasDict = false ∧ x.py.shown.length ≤ sizeLine then some (.str x.py.shown) else none
  | _ => none
def W.same (a b : W) : Option Bool := if a.ok 40 && b.ok 40 then some (a.eqv b) else none
/-- x in xs -/
def W.mem (x : W) (xs : List W) : Option Bool := if x.ok 40 && W.oks 40 xs then some (xs.any fun y => y.eqv x) else none

/-- the items of a list, a tuple, a cell -/
def itemsOf (S : Store) : W → Option (List W)
  | .lst xs => some xs
  | .ro xs => some xs
  | .tup xs => some xs
  | .loc n => (S[n]?).join
  | _ => none
/-- the items of a list or a cell -/
def listOf (S : Store) : W → Option (List W)
  | .lst xs => some xs
  | .ro xs => some xs
  | .loc n => (S[n]?).join
  | _ => none
def truW (S : Store) : W → Option Bool
  | .non => some false
  | .bl b => some b
  | .int i => some (i != 0)
  | .str x => if x.length ≤ sizeLine then some ((x.length : Int) != 0) else none
  | .lst xs => some (!xs.isEmpty)
  | .ro xs => some (!xs.isEmpty)
  | .tup xs => some (!xs.isEmpty)
  | .loc n => ((S[n]?).join).map fun xs => !xs.isEmpty
  | .edict => some false
def cutG {α : Type} (xs : List α) (lo hi : Option Int) : List α := (xs.drop (HT.sIx xs.length 0 lo)).take (HT.sIx xs.length xs.length hi - HT.sIx xs.length 0 lo)
def intsOf : List W → Option (List Int)
  | [] => some []
  | .int i :: r => (intsOf r).map (i :: ·)
  | _ => none
def boolsOf : List W → Option (List Bool)
  | [] => some []
  | .bl b :: r => (boolsOf r).map (b :: ·)
  | _ => none

/-! ### the reflected syntax -/
inductive Bop | add | sub | mul | fdiv | mod | pow
  deriving DecidableEq
inductive Cop | eq | ne | lt | le | gt | ge | isN | notN | inn | notIn
  deriving DecidableEq
inductive Blt | len | abs | max2 | min2 | int | sum | all | any | list | tuple | gcd | lcm | max1 | min1
  deriving DecidableEq
inductive Mth | append | extend | pop0 | pop1 | insert | clear | reverse
  deriving DecidableEq

mutual
inductive Xp
  | var (i : Nat)
  | cst (w : W)
  | con (c : Nat)
  | tup (es : Xps)
  | lst (es : Xps)
  | edict
  | bin (op : Bop) (a b : Xp)
  | neg (a : Xp)
  | nott (a : Xp)
  | cmp (op : Cop) (a b : Xp)
  | chain (op op' : Cop) (a b c : Xp)
  | andd (a b : Xp)
  | orr (a b : Xp)
  | ite (t a b : Xp)
  | sub (a i : Xp)
  | omit
  | slc (a : Xp) (hl : Bool) (lo : Xp) (hh : Bool) (hi : Xp)
  | comp (elt : Xp) (tg : Xt) (it : Xi) (ifs : Xps) (own : List Nat)
  | call (f : Nat) (args : Xps)
  | callS (f : Nat) (args : Xps)
  | callK (f : Nat) (args : Xps) (ks : List Nat) (kargs : Xps)
  | blt (b : Blt) (args : Xps)
  | isi (a : Xp) (ts : List String)
  | meth (m : Mth) (o : Xp) (args : Xps)
  | thaw (a : Xp)
  | frz (a : Xp)
  | cat (a b : Xp)
  | repr (a : Xp)
inductive Xps
  | nil
  | cons (a : Xp) (r : Xps)
inductive Xi
  | seq (a : Xp)
  | range1 (a : Xp)
  | range2 (a b : Xp)
  | zip2 (a b : Xp)
  | zip3 (a b c : Xp)
  | enum (a : Xp)
inductive Xt
  | name (i : Nat)
  | tup (ts : Xts)
  | sub (o i : Xp)
inductive Xts
  | nil
  | cons (a : Xt) (r : Xts)
end
mutual
inductive Sm
  | asg (t : Xt) (e : Xp)
  | expr (e : Xp)
  | ret (e : Xp)
  | retN
  | iff (t : Xp) (a b : Sms)
  | for_ (t : Xt) (it : Xi) (b : Sms)
  | whl (t : Xp) (b : Sms)
  | cont
  | brk
  | pass
  | never
  | aug (i : Nat) (op : Bop) (e : Xp)
  | freeze (i : Nat)
inductive Sms
  | nil
  | cons (s : Sm) (r : Sms)
end

/-- what is known of the other functions, constants; the store's size at the entry; the most turns of a while -/
structure Sem where
  fn : Nat → List W → Store → Option (W × Store)
  fr : Nat → Bool
  con : Nat → W
  n0 : Nat
  fuel : Nat

/-- a new list? -/
def fresh (M : Sem) : Xp → Bool
  | .lst _ => true
  | .comp .. => true
  | .call f _ => M.fr f
  | .callK f _ _ _ => M.fr f
  | .blt .list _ => true
  | .cat _ _ => true
  | _ => false

def binW (S : Store) : Bop → W → W → Option W
  | .add, .int a, .int b => some (.int (a + b))
  | .sub, .int a, .int b => some (.int (a - b))
  | .mul, .int a, .int b => if (a.natAbs < 2 ^ 64 ∨ b.natAbs < 2 ^ 64) ∨ a.natAbs.log2 + b.natAbs.log2 < 100000000 then some (.int (a * b)) else none
  | .fdiv, .int a, .int b => if b ≠ 0 ∧ Builtin.divisionGoesByPylong a b = false then some (.int (a.fdiv b)) else none
  | .mod, .int a, .int b => if b ≠ 0 then some (.int (a.fmod b)) else none
  | .pow, .int a, .int b => if 0 ≤ b ∧ b ≤ 1000000 ∧ a.natAbs < 2 ^ 64 then some (.int (a ^ b.toNat)) else none
  | .add, .lst a, .lst b => if a.length + b.length ≤ sizeLine then some (.lst (a ++ b)) else none
  | .mul, .lst a, .int b => if -(2 ^ 63) ≤ b ∧ b < 2 ^ 63 ∧ a.length * b.toNat ≤ sizeLine then some (.lst (List.replicate b.toNat a).flatten) else none
  | .add, .tup a, .tup b => if a ≠ [] ∧ a.length + b.length ≤ sizeLine then some (.tup (a ++ b)) else none
  | _, _, _ => none
def cmpW (S : Store) : Cop → W → W → Option W
  | .eq, a, b => (W.same a b).map W.bl
  | .ne, a, b => (W.same a b).map fun k => W.bl (!k)
  | .lt, .int a, .int b => some (.bl (decide (a < b)))
  | .le, .int a, .int b => some (.bl (decide (a ≤ b)))
  | .gt, .int a, .int b => some (.bl (decide (b < a)))
  | .ge, .int a, .int b => some (.bl (decide (b ≤ a)))
  | .isN, a, .non => some (.bl (match a with | .non => true | _ => false))
  | .notN, a, .non => some (.bl (match a with | .non => false | _ => true))
  | .inn, a, b => match itemsOf S b with
    | some xs => (W.mem a xs).map W.bl
    | none => none
  | .notIn, a, b => match itemsOf S b with
    | some xs => (W.mem a xs).map fun k => W.bl (!k)
    | none => none
  | _, _, _ => none
def bltW (S : Store) : Blt → List W → Option W
  | .len, [.str x] => if x.length ≤ sizeLine then some (.int x.length) else none
  | .len, [a] => (itemsOf S a).map fun xs => .int xs.length
  | .abs, [.int a] => some (.int (if a < 0 then -a else a))
  | .max2, [.int a, .int b] => some (.int (if b > a then b else a))
  | .min2, [.int a, .int b] => some (.int (if b < a then b else a))
  | .int, [.int a] => some (.int a)
  | .int, [.bl b] => some (.int (if b then 1 else 0))
  | .sum, [a] => match listOf S a with
    | some xs => (intsOf xs).map fun ns => .int ns.sum
    | none => none
  | .all, [a] => match listOf S a with
    | some xs => (boolsOf xs).map fun bs => .bl (bs.all id)
    | none => none
  | .any, [a] => match listOf S a with
    | some xs => (boolsOf xs).map fun bs => .bl (bs.any id)
    | none => none
  | .list, [a] => (itemsOf S a).map .lst
  | .tuple, [.tup xs] => some (.tup xs)
  | .tuple, [a] => (listOf S a).map .tup
  | .gcd, [.int a, .int b] => some (.int (a.natAbs.gcd b.natAbs : Nat))
  | .lcm, [.int a, .int b] => if a.natAbs.log2 < 13000 ∧ b.natAbs.log2 < 13000 then some (.int (a.natAbs.lcm b.natAbs : Nat)) else none
  | _, _ => none
def isiOne : W → String → Option Bool
  | .non, _ => some false
  | .bl _, t => some (t == "bool" || t == "int")
  | .int _, t => some (t == "int")
  | .str _, t => some (t == "str")
  | .tup _, t => some (t == "tuple")
  | .lst _, t => some (t == "list")
  | .ro _, _ => none
  | .edict, t => some (t == "dict")
  | .loc _, _ => none
def isiW (a : W) : List String → Option Bool
  | [] => some false
  | t :: r => match isiOne a t, isiW a r with
    | some x, some y => some (x || y)
    | _, _ => none
/-- a[i] -/
def subW (S : Store) (a i : W) : Option W := match i with
  | .int k => match a with
    | .str z => if z.length ≤ sizeLine then (atI z.cps.toList k).map fun c => .str ⟨#[c]⟩ else none
    | a => match itemsOf S a with
      | some xs => atI xs k
      | none => none
  | _ => none
def partW : Option W → Option (Option Int)
  | none => some none
  | some (.int i) => some (some i)
  | some _ => none
/-- a[lo:hi] -/
def slcW (S : Store) (a : W) (lo hi : Option Int) : Option W := match a with
  | .tup xs => if HT.sIx xs.length 0 lo = 0 ∧ HT.sIx xs.length xs.length hi = xs.length then none else some (.tup (cutG xs lo hi))
  | a => (listOf S a).map fun xs => .lst (cutG xs lo hi)
/-- a method of a cell -/
def methW (S : Store) : Mth → W → List W → Option (W × Store)
  | .append, .loc n, [x] => match (S[n]?).join with
    | some xs => if xs.length < sizeLine then some (.non, S.set n (some (xs ++ [x]))) else none
    | none => none
  | .extend, .loc n, [.lst ys] => match (S[n]?).join with
    | some xs => if xs.length + ys.length ≤ sizeLine then some (.non, S.set n (some (xs ++ ys))) else none
    | none => none
  | .pop0, .loc n, [] => match (S[n]?).join with
    | some xs => match xs[xs.length - 1]? with
      | some y => some (y, S.set n (some xs.dropLast))
      | none => none
    | none => none
  | .pop1, .loc n, [.int i] => match (S[n]?).join with
    | some xs => match ixN xs.length i with
      | some k => if -(2 ^ 63) ≤ i ∧ i < 2 ^ 63 then match xs[k]? with
        | some y => some (y, S.set n (some (xs.eraseIdx k)))
        | none => none
        else none
      | none => none
    | none => none
  | .clear, .loc n, [] => match (S[n]?).join with
    | some _ => some (.non, S.set n (some []))
    | none => none
  | .reverse, .loc n, [] => match (S[n]?).join with
    | some xs => some (.non, S.set n (some xs.reverse))
    | none => none
  | _, _, _ => none
/-- o[i] = v -/
def setW (S : Store) (o i v : W) : Option Store := match o, i with
  | .loc n, .int k => match (S[n]?).join with
    | some xs => match ixN xs.length k with
      | some j => some (S.set n (some (xs.set j v)))
      | none => none
    | none => none
  | _, _ => none
def zip2W : List W → List W → List W
  | x :: xs, y :: ys => .tup [x, y] :: zip2W xs ys
  | _, _ => []
def zip3W : List W → List W → List W → List W
  | x :: xs, y :: ys, z :: zs => .tup [x, y, z] :: zip3W xs ys zs
  | _, _, _ => []
def enumW : Nat → List W → List W
  | _, [] => []
  | i, x :: xs => .tup [.int i, x] :: enumW (i + 1) xs
def rangeW (lo : Int) (n : Nat) : List W := (List.range n).map fun i => .int (lo + (i : Nat))
/-- the items of an immutable list or tuple -/
def seqOf : W → Option (List W)
  | .lst xs => some xs
  | .ro xs => some xs
  | .tup xs => some xs
  | _ => none
def wipeE (env : Env) : List Nat → Env
  | [] => env
  | v :: vs => (wipeE env vs).set v none
/-- the loop of a comprehension -/
def compGo (step : W → Store → Option (Option W × Store)) : List W → List W → Store → Option (List W × Store)
  | [], acc, S => some (acc, S)
  | x :: xs, acc, S => match step x S with
    | none => none
    | some (none, S') => compGo step xs acc S'
    | some (some y, S') => if acc.length < sizeLine then compGo step xs (acc ++ [y]) S' else none
/-- the parameters' order for keywords: the place k of the i-th parameter among what was evaluated -/
def arrange {α : Type} (ks : List Nat) (ds : List α) : Option (List α) := match ks with
  | [] => some []
  | k :: r => match ds[k]?, arrange r ds with
    | some d, some q => some (d :: q)
    | _, _ => none
def W.scalar : W → Bool
  | .non | .bl _ | .int _ | .str _ => true
  | _ => false
mutual
/-- lent: the cells within as lists -/
def W.deref (S : Store) : W → Option W
  | .loc n => match (S[n]?).join with
    | some ds => if W.frees ds = true then some (.lst ds) else none
    | none => none
  | .tup xs => match W.derefs S xs with
    | some ys => some (.tup ys)
    | none => none
  | .lst xs => match W.derefs S xs with
    | some ys => some (.lst ys)
    | none => none
  | .ro xs => if W.frees xs = true then some (.ro xs) else none
  | .non => some .non
  | .bl b => some (.bl b)
  | .int i => some (.int i)
  | .str x => some (.str x)
  | .edict => some .edict
def W.derefs (S : Store) : List W → Option (List W)
  | [] => some []
  | x :: xs => match W.deref S x with
    | some y => match W.derefs S xs with
      | some ys => some (y :: ys)
      | none => none
    | none => none
end
/-- a call that is lent cells: what comes back holds none of them -/
def lentCall (M : Sem) (f : Nat) (ds : List W) (S : Store) : Option (W × Store) := match W.derefs S ds with
  | some es => match M.fn f es [] with
    | some (d, _) => if d.scalar = true ∧ M.fr f = false then some (d, S) else none
    | none => none
  | none => none
def pureCall (M : Sem) (f : Nat) (ds : List W) (S : Store) : Option (W × Store) :=
  if W.frees ds = true then match M.fn f ds [] with
    | some (d, _) => if d.free = true then some (d, S) else none
    | none => none
  else lentCall M f ds S

def intPart : Option (W × Store) → Option (Option Int × Store)
  | some (.int i, S) => some (some i, S)
  | _ => none
mutual
def evE (M : Sem) : Xp → Env → Store → Option (W × Store)
  | .var i, env, S => ((env[i]?).join).map fun w => (w, S)
  | .cst w, _, S => some (w, S)
  | .con c, _, S => some (M.con c, S)
  | .tup es, env, S => match evEs M es env S with
    | some (ds, S1) => if ds.length ≤ sizeLine then some (.tup ds, S1) else none
    | none => none
  | .lst es, env, S => match evEs M es env S with
    | some (ds, S1) => if ds.length ≤ sizeLine then some (.lst ds, S1) else none
    | none => none
  | .edict, _, S => some (.edict, S)
  | .bin op a b, env, S => match evE M a env S with
    | some (x, S1) => match evE M b env S1 with
      | some (y, S2) => (binW S2 op x y).map fun z => (z, S2)
      | none => none
    | none => none
  | .neg a, env, S => match evE M a env S with
    | some (.int i, S1) => some (.int (-i), S1)
    | _ => none
  | .nott a, env, S => match evE M a env S with
    | some (x, S1) => (truW S1 x).map fun k => (.bl (!k), S1)
    | none => none
  | .cmp op a b, env, S => match evE M a env S with
    | some (x, S1) => match evE M b env S1 with
      | some (y, S2) => (cmpW S2 op x y).map fun z => (z, S2)
      | none => none
    | none => none
  | .chain op op' a b c, env, S => match evE M a env S with
    | some (x, S1) => match evE M b env S1 with
      | some (y, S2) => match cmpW S2 op x y with
        | some (.bl true) => match evE M c env S2 with
          | some (z, S3) => (cmpW S3 op' y z).map fun q => (q, S3)
          | none => none
        | some (.bl false) => some (.bl false, S2)
        | _ => none
      | none => none
    | none => none
  | .andd a b, env, S => match evE M a env S with
    | some (x, S1) => match truW S1 x with
      | some true => evE M b env S1
      | some false => some (x, S1)
      | none => none
    | none => none
  | .orr a b, env, S => match evE M a env S with
    | some (x, S1) => match truW S1 x with
      | some false => evE M b env S1
      | some true => some (x, S1)
      | none => none
    | none => none
  | .ite t a b, env, S => match evE M t env S with
    | some (x, S1) => match truW S1 x with
      | some true => evE M a env S1
      | some false => evE M b env S1
      | none => none
    | none => none
  | .sub a i, env, S => match evE M a env S with
    | some (x, S1) => match evE M i env S1 with
      | some (y, S2) => (subW S2 x y).map fun z => (z, S2)
      | none => none
    | none => none
  | .omit, _, _ => none
  | .slc a hl lo hh hi, env, S => match evE M a env S with
    | some (x, S1) => match (if hl = true then intPart (evE M lo env S1) else some (none, S1)) with
      | some (l, S2) => match (if hh = true then intPart (evE M hi env S2) else some (none, S2)) with
        | some (h, S3) => (slcW S3 x l h).map fun z => (z, S3)
        | none => none
      | none => none
    | none => none
  | .comp elt tg it ifs own, env, S => match evI M it env S with
    | some (xs, S1) => match compGo (fun x S => match asgT M tg x (wipeE env own) S with
        | some (env', S') => match evTs M ifs env' S' with
          | some (true, S'') => match evE M elt env' S'' with
            | some (y, S3) => some (some y, S3)
            | none => none
          | some (false, S'') => some (none, S'')
          | none => none
        | none => none) xs [] S1 with
      | some (ys, S2) => some (.lst ys, S2)
      | none => none
    | none => none
  | .call f args, env, S => match evEs M args env S with
    | some (ds, S1) => pureCall M f ds S1
    | none => none
  | .callS f args, env, S => match evEs M args env S with
    | some (ds, S1) => M.fn f ds S1
    | none => none
  | .callK f args ks kargs, env, S => match evEs M args env S with
    | some (ds, S1) => match evEs M kargs env S1 with
      | some (es, S2) => match arrange ks (ds ++ es) with
        | some qs => pureCall M f qs S2
        | none => none
      | none => none
    | none => none
  | .blt b args, env, S => match evEs M args env S with
    | some (ds, S1) => (bltW S1 b ds).map fun z => (z, S1)
    | none => none
  | .isi a ts, env, S => match evE M a env S with
    | some (x, S1) => (isiW x ts).map fun k => (.bl k, S1)
    | none => none
  | .meth m o args, env, S => match evE M o env S with
    | some (x, S1) => if (listOf S1 x).isSome = true then match evEs M args env S1 with
        | some (ds, S2) => methW S2 m x ds
        | none => none
      else none
    | none => none
  | .thaw a, env, S => if fresh M a = true then match evE M a env S with
      | some (.lst ds, S1) => some (.loc S1.length, S1 ++ [some ds])
      | _ => none
    else none
  | .frz a, env, S => match evE M a env S with
    | some (.loc n, S1) => match (S1[n]?).join with
      | some ds => some (.lst ds, S1.set n none)
      | none => none
    | _ => none
  | .repr a, env, S => match evE M a env S with
    | some (x, S1) => (reprW x).map fun z => (z, S1)
    | none => none
  | .cat a b, env, S => match evE M a env S with
    | some (.lst xs, S1) => match evE M b env S1 with
      | some (.lst ys, S2) => if xs.length + ys.length ≤ sizeLine then some (.lst (xs ++ ys), S2) else none
      | _ => none
    | _ => none
def evEs (M : Sem) : Xps → Env → Store → Option (List W × Store)
  | .nil, _, S => some ([], S)
  | .cons a r, env, S => match evE M a env S with
    | some (x, S1) => match evEs M r env S1 with
      | some (xs, S2) => some (x :: xs, S2)
      | none => none
    | none => none
/-- the tests of a comprehension, one behind the other -/
def evTs (M : Sem) : Xps → Env → Store → Option (Bool × Store)
  | .nil, _, S => some (true, S)
  | .cons a r, env, S => match evE M a env S with
    | some (x, S1) => match truW S1 x with
      | some true => evTs M r env S1
      | some false => some (false, S1)
      | none => none
    | none => none
def evI (M : Sem) : Xi → Env → Store → Option (List W × Store)
  | .seq a, env, S => match evE M a env S with
    | some (x, S1) => (seqOf x).map fun xs => (xs, S1)
    | none => none
  | .range1 a, env, S => match evE M a env S with
    | some (.int j, S1) => if -(2 ^ 62) ≤ j ∧ j < 2 ^ 62 then some (rangeW 0 j.toNat, S1) else none
    | _ => none
  | .range2 a b, env, S => match evE M a env S with
    | some (.int i, S1) => match evE M b env S1 with
      | some (.int j, S2) => if -(2 ^ 62) ≤ i ∧ i < 2 ^ 62 ∧ -(2 ^ 62) ≤ j ∧ j < 2 ^ 62 then some (rangeW i (j - i).toNat, S2) else none
      | _ => none
    | _ => none
  | .zip2 a b, env, S => match evE M a env S with
    | some (x, S1) => match evE M b env S1 with
      | some (y, S2) => match seqOf x, seqOf y with
        | some xs, some ys => some (zip2W xs ys, S2)
        | _, _ => none
      | none => none
    | none => none
  | .zip3 a b c, env, S => match evE M a env S with
    | some (x, S1) => match evE M b env S1 with
      | some (y, S2) => match evE M c env S2 with
        | some (z, S3) => match seqOf x, seqOf y, seqOf z with
          | some xs, some ys, some zs => some (zip3W xs ys zs, S3)
          | _, _, _ => none
        | none => none
      | none => none
    | none => none
  | .enum a, env, S => match evE M a env S with
    | some (x, S1) => (seqOf x).map fun xs => (enumW 0 xs, S1)
    | none => none
/-- a value to a target -/
def asgT (M : Sem) : Xt → W → Env → Store → Option (Env × Store)
  | .name i, w, env, S => if i < env.length then some (env.set i (some w), S) else none
  | .tup ts, w, env, S => match w with
    | .tup ws => asgTs M ts ws env S
    | _ => none
  | .sub o i, w, env, S => match evE M o env S with
    | some (x, S1) => match evE M i env S1 with
      | some (y, S2) => (setW S2 x y w).map fun S3 => (env, S3)
      | none => none
    | none => none
def asgTs (M : Sem) : Xts → List W → Env → Store → Option (Env × Store)
  | .nil, ws, env, S => match ws with
    | [] => some (env, S)
    | _ => none
  | .cons t r, ws, env, S => match ws with
    | w :: ws => match asgT M t w env S with
      | some (env1, S1) => asgTs M r ws env1 S1
      | none => none
    | [] => none
end

/-! ### statements -/
inductive Rs
  | next (env : Env) (S : Store)
  | ret (w : W) (S : Store)
  | brk (env : Env) (S : Store)
  | cont (env : Env) (S : Store)

def forGo (tg : W → Env → Store → Option (Env × Store)) (body : Env → Store → Option Rs) : List W → Env → Store → Option Rs
  | [], env, S => some (.next env S)
  | x :: xs, env, S => match tg x env S with
    | some (env1, S1) => match body env1 S1 with
      | some (.next env2 S2) => forGo tg body xs env2 S2
      | some (.cont env2 S2) => forGo tg body xs env2 S2
      | some (.brk env2 S2) => some (.next env2 S2)
      | some (.ret w S2) => some (.ret w S2)
      | none => none
    | none => none
def whlGo (test : Env → Store → Option (Bool × Store)) (body : Env → Store → Option Rs) : Nat → Env → Store → Option Rs
  | 0, _, _ => none
  | n + 1, env, S => match test env S with
    | some (true, S1) => match body env S1 with
      | some (.next env2 S2) => whlGo test body n env2 S2
      | some (.cont env2 S2) => whlGo test body n env2 S2
      | some (.brk env2 S2) => some (.next env2 S2)
      | some (.ret w S2) => some (.ret w S2)
      | none => none
    | some (false, S1) => some (.next env S1)
    | none => none
def evT (M : Sem) (e : Xp) (env : Env) (S : Store) : Option (Bool × Store) := match evE M e env S with
  | some (x, S1) => (truW S1 x).map fun k => (k, S1)
  | none => none
mutual
def evS (M : Sem) : Sm → Env → Store → Option Rs
  | .asg t e, env, S => match evE M e env S with
    | some (w, S1) => match asgT M t w env S1 with
      | some (env1, S2) => some (.next env1 S2)
      | none => none
    | none => none
  | .expr e, env, S => match evE M e env S with
    | some (_, S1) => some (.next env S1)
    | none => none
  | .ret e, env, S => match evE M e env S with
    | some (w, S1) => some (.ret w S1)
    | none => none
  | .retN, _, S => some (.ret .non S)
  | .iff t a b, env, S => match evT M t env S with
    | some (true, S1) => evSs M a env S1
    | some (false, S1) => evSs M b env S1
    | none => none
  | .for_ t it b, env, S => match evI M it env S with
    | some (xs, S1) => forGo (fun x env S => asgT M t x env S) (fun env S => evSs M b env S) xs env S1
    | none => none
  | .whl t b, env, S => whlGo (fun env S => evT M t env S) (fun env S => evSs M b env S) M.fuel env S
  | .cont, env, S => some (.cont env S)
  | .brk, env, S => some (.brk env S)
  | .pass, env, S => some (.next env S)
  | .never, _, _ => none
  | .aug i op e, env, S => match (env[i]?).join with
    | some x => match evE M e env S with
      | some (y, S1) => match x, y, op with
        | .int a, .int b, .add => some (.next (env.set i (some (.int (a + b)))) S1)
        | _, _, _ => none
      | none => none
    | none => none
  | .freeze i, env, S => match (env[i]?).join with
    | some (.loc n) => match (S[n]?).join with
      | some ds => some (.next (env.set i (some (.lst ds))) (S.set n none))
      | none => none
    | _ => none
def evSs (M : Sem) : Sms → Env → Store → Option Rs
  | .nil, env, S => some (.next env S)
  | .cons s r, env, S => match evS M s env S with
    | some (.next env1 S1) => evSs M r env1 S1
    | some q => some q
    | none => none
end

/-- a function of the text -/
structure FDef where
  params : Nat
  vars : Nat
  fr : Bool
  body : Sms
def callF (M : Sem) (d : FDef) (ds : List W) (S : Store) : Option (W × Store) :=
  if ds.length = d.params then match evSs { M with n0 := S.length } d.body (ds.map some ++ List.replicate (d.vars - ds.length) none) S with
    | some (.ret w S1) => some (w, S1)
    | some (.next _ S1) => if d.fr = true then none else some (.non, S1)
    | _ => none
  else none
def semOf (tbl : List FDef) (con : Nat → W) (fuel : Nat) (fn : Nat → List W → Store → Option (W × Store)) : Sem :=
  { fn := fn, fr := fun f => (tbl[f]?).any (·.fr), con := con, n0 := 0, fuel := fuel }
def run (tbl : List FDef) (con : Nat → W) (fuel : Nat) : Nat → Nat → List W → Store → Option (W × Store)
  | 0, _, _, _ => none
  | k + 1, f, ds, S => match tbl[f]? with
    | some d => callF (semOf tbl con fuel (run tbl con fuel k)) d ds S
    | none => none
end Rf

namespace Rf
open PySem PySem.Spec L2

/-! ### plain data as the library has it -/
mutual
theorem py_plain : ∀ (d : W) (n : Nat), d.ok n = true → d.py.plain = true ∧ d.py.depth ≤ n
  | .non, n, _ => ⟨rfl, Nat.zero_le _⟩
  | .bl _, n, _ => ⟨rfl, Nat.zero_le _⟩
  | .int _, n, _ => ⟨rfl, Nat.zero_le _⟩
  | .str _, n, _ => ⟨rfl, Nat.zero_le _⟩
  | .tup xs, 0, h => by simp [W.ok] at h
  | .tup xs, n + 1, h => by
    obtain ⟨a, b⟩ := pys_plain xs n (by simpa [W.ok] using h)
    exact ⟨a, Nat.succ_le_succ b⟩
  | .lst xs, 0, h => by simp [W.ok] at h
  | .lst xs, n + 1, h => by
    obtain ⟨a, b⟩ := pys_plain xs n (by simpa [W.ok] using h)
    exact ⟨a, Nat.succ_le_succ b⟩
  | .ro _, 0, h => by simp [W.ok] at h
  | .ro _, n + 1, h => by simp [W.ok] at h
  | .loc _, 0, h => by simp [W.ok] at h
  | .loc _, n + 1, h => by simp [W.ok] at h
  | .edict, 0, h => by simp [W.ok] at h
  | .edict, n + 1, h => by simp [W.ok] at h
theorem pys_plain : ∀ (ds : List W) (n : Nat), W.oks n ds = true → PyData.plainAll (W.pys ds) = true ∧ PyData.depthAll (W.pys ds) ≤ n
  | [], n, _ => ⟨rfl, Nat.zero_le _⟩
  | d :: ds, n, h => by
    have h : (d.ok n && W.oks n ds) = true := by simpa [W.oks] using h
    rw [Bool.and_eq_true] at h
    obtain ⟨a, b⟩ := py_plain d n h.1
    obtain ⟨c, e⟩ := pys_plain ds n h.2
    exact ⟨by simp [W.pys, PyData.plainAll, a, c], by simp [W.pys, PyData.depthAll]; omega⟩
end
mutual
theorem py_eqv : ∀ (d e : W) (n : Nat), d.ok n = true → e.ok n = true → PyData.eqv d.py e.py = d.eqv e
  | .non, e, n, _, he => by cases n <;> cases e <;> first | rfl | (simp [W.ok] at he)
  | .bl a, e, n, _, he => by cases n <;> cases e <;> first | rfl | (simp [W.ok] at he)
  | .int a, e, n, _, he => by cases n <;> cases e <;> first | rfl | (simp [W.ok] at he)
  | .str a, e, n, _, he => by cases n <;> cases e <;> first | rfl | (simp [W.ok] at he)
  | .tup xs, e, 0, h, he => by simp [W.ok] at h
  | .tup xs, e, n + 1, h, he => by
    cases e with
    | tup ys => simpa [W.py, PyData.eqv, W.eqv] using pys_eqv xs ys n (by simpa [W.ok] using h) (by simpa [W.ok] using he)
    | _ => first | rfl | (simp [W.ok] at he)
  | .lst xs, e, 0, h, he => by simp [W.ok] at h
  | .lst xs, e, n + 1, h, he => by
    cases e with
    | lst ys => simpa [W.py, PyData.eqv, W.eqv] using pys_eqv xs ys n (by simpa [W.ok] using h) (by simpa [W.ok] using he)
    | _ => first | rfl | (simp [W.ok] at he)
  | .ro _, e, n, h, _ => by cases n <;> simp [W.ok] at h
  | .loc _, e, n, h, _ => by cases n <;> simp [W.ok] at h
  | .edict, e, n, h, _ => by cases n <;> simp [W.ok] at h
theorem pys_eqv : ∀ (ds es : List W) (n : Nat), W.oks n ds = true → W.oks n es = true → PyData.eqvAll (W.pys ds) (W.pys es) = W.eqvs ds es
  | [], [], n, _, _ => rfl
  | [], _ :: _, n, _, _ => rfl
  | _ :: _, [], n, _, _ => rfl
  | d :: ds, e :: es, n, h, h' => by
    have h : (d.ok n && W.oks n ds) = true := by simpa [W.oks] using h
    have h' : (e.ok n && W.oks n es) = true := by simpa [W.oks] using h'
    rw [Bool.and_eq_true] at h h'
    simp [W.pys, PyData.eqvAll, W.eqvs, py_eqv d e n h.1 h'.1, pys_eqv ds es n h.2 h'.2]
end
section
variable {K : PySem.W.Frag} {ω : Wd}
mutual
theorem Rp.dp : ∀ {v : V} {d : W} (n : Nat), d.ok n = true → Rp K ω v d → Dp K ω.H v d.py
  | _, _, _, _, .non => .non
  | _, _, _, _, .bl b => .bl b
  | _, _, _, _, .int i => .int i
  | _, _, _, _, .str x => .str x
  | _, _, 0, h, .tup _ _ => by simp [W.ok] at h
  | _, _, n + 1, h, .tup q r => .tup q.sq (Rps.dp n (by simpa [W.ok] using h) r)
  | _, _, 0, h, .lst _ _ => by simp [W.ok] at h
  | _, _, n + 1, h, .lst q r => .lst q.sq (Rps.dp n (by simpa [W.ok] using h) r)
  | _, _, 0, h, .ro _ _ => by simp [W.ok] at h
  | _, _, n + 1, h, .ro _ _ => by simp [W.ok] at h
  | _, _, 0, h, .loc _ => by simp [W.ok] at h
  | _, _, n + 1, h, .loc _ => by simp [W.ok] at h
  | _, _, 0, h, .edict _ _ => by simp [W.ok] at h
  | _, _, n + 1, h, .edict _ _ => by simp [W.ok] at h
theorem Rps.dp : ∀ {vs : List V} {ds : List W} (n : Nat), W.oks n ds = true → Rps K ω vs ds → DpAll K ω.H vs (W.pys ds)
  | _, _, _, _, .nil => .nil
  | _, _, n, h, .cons q r => by
    rw [show W.oks n _ = _ from rfl] at h
    have h := (Bool.and_eq_true _ _).mp (show (W.ok n _ && W.oks n _) = true by simpa [W.oks] using h)
    exact .cons (Rp.dp n h.1 q) (Rps.dp n h.2 r)
end
end

/-! ### == and in -/
section
variable {X : Cx}
def rSame (neg : Bool) : R2 := fun x y H Q => ∃ d e, Dp X.K H x d ∧ Dp X.K H y e ∧ d.plain = true ∧ e.plain = true ∧ min d.depth e.depth ≤ 40 ∧ Q (.bl (if neg then !PyData.eqv d e else PyData.eqv d e)) H
theorem op_same (hu : X.A.units + 64 < cLine) : OpR X (compareOp .Eq) (rSame (X := X) false) := by
  intro pins s σ H x y v u Q I rx ry h
  obtain ⟨d, e, hd, he, pd, pe, hm, q⟩ := h
  obtain ⟨as, ra⟩ := Dp.reads I d x v hd rx
  obtain ⟨bs, rb⟩ := Dp.reads I e y u he ry
  exact PySem.SeqAt.eq_plain ra rb pd pe (by omega) (fin_bl I q rfl)
theorem op_diff (hu : X.A.units + 64 < cLine) : OpR X (compareOp .NotEq) (rSame (X := X) true) := by
  intro pins s σ H x y v u Q I rx ry h
  obtain ⟨d, e, hd, he, pd, pe, hm, q⟩ := h
  obtain ⟨as, ra⟩ := Dp.reads I d x v hd rx
  obtain ⟨bs, rb⟩ := Dp.reads I e y u he ry
  exact PySem.SeqAt.ne_plain ra rb pd pe (by omega) (fin_bl I q rfl)
def rMem (neg : Bool) : R2 := fun x y H Q => ∃ d p xs es, Dp X.K H x d ∧ y = .ref p ∧ (SqL X.K H p xs ∨ SqT X.K H p xs) ∧ DpAll X.K H xs es ∧ d.plain = true ∧ PyData.plainAll es = true ∧ min (PyData.depthAll es) d.depth ≤ 40 ∧
  Q (.bl (if neg then !(es.any fun y => PyData.eqv y d) else es.any fun y => PyData.eqv y d)) H
theorem op_mem (hu : X.A.units + 64 < cLine) : OpR X (compareOp .In) (rMem (X := X) false) := by
  intro pins s σ H x y v u Q I rx ry h
  obtain ⟨d, p, xs, es, hd, rfl, hs, he, pd, pe, hm, q⟩ := h
  obtain ⟨as, ra⟩ := Dp.reads I d x v hd rx
  rcases hs with hs | hs
  · obtain ⟨bs, rb⟩ := Dp.reads I (.list es) (.ref p) u (.lst hs he) ry
    exact PySem.SeqAt.in_list_data rb ra pe pd (by omega) (fin_bl I q rfl)
  · obtain ⟨bs, rb⟩ := Dp.reads I (.tuple es) (.ref p) u (.tup hs he) ry
    exact PySem.SeqAt.in_tuple_data rb ra pe pd (by omega) (fin_bl I q rfl)
theorem op_nmem (hu : X.A.units + 64 < cLine) : OpR X (compareOp .NotIn) (rMem (X := X) true) := by
  intro pins s σ H x y v u Q I rx ry h
  obtain ⟨d, p, xs, es, hd, rfl, hs, he, pd, pe, hm, q⟩ := h
  obtain ⟨as, ra⟩ := Dp.reads I d x v hd rx
  rcases hs with hs | hs
  · obtain ⟨bs, rb⟩ := Dp.reads I (.list es) (.ref p) u (.lst hs he) ry
    exact PySem.SeqAt.notIn_list_data rb ra pe pd (by omega) (fin_bl I q rfl)
  · obtain ⟨bs, rb⟩ := Dp.reads I (.tuple es) (.ref p) u (.tup hs he) ry
    exact PySem.SeqAt.notIn_tuple_data rb ra pe pd (by omega) (fin_bl I q rfl)
end
theorem pys_any : ∀ (xs : List W) (x : W), W.oks 40 xs = true → x.ok 40 = true → ((W.pys xs).any fun y => PyData.eqv y x.py) = xs.any fun y => y.eqv x
  | [], _, _, _ => rfl
  | y :: ys, x, h, hx => by
    have h := (Bool.and_eq_true _ _).mp (show (W.ok 40 y && W.oks 40 ys) = true by simpa [W.oks] using h)
    simp only [W.pys, List.any_cons, py_eqv y x 40 h.1 hx, pys_any ys x h.2 hx]
end Rf

namespace Rf
open PySem PySem.Spec L2

theorem same_some {d e : W} {k : Bool} (h : W.same d e = some k) : d.ok 40 = true ∧ e.ok 40 = true ∧ k = d.eqv e := by
  unfold W.same at h
  split at h
  · rename_i q
    rw [Bool.and_eq_true] at q
    exact ⟨q.1, q.2, (Option.some.inj h).symm⟩
  · cases h
theorem mem_some {d : W} {es : List W} {k : Bool} (h : W.mem d es = some k) : d.ok 40 = true ∧ W.oks 40 es = true ∧ k = es.any fun y => y.eqv d := by
  unfold W.mem at h
  split at h
  · rename_i q
    rw [Bool.and_eq_true] at q
    exact ⟨q.1, q.2, (Option.some.inj h).symm⟩
  · cases h

/-- the items of what may be read as a sequence -/
theorem items_rd {K : PySem.W.Frag} {ω : Wd} {S : Store} {v : V} {d : W} {xs : List W} (sr : SR K ω S) (r : Rp K ω v d) (h : itemsOf S d = some xs) : ∃ p vs, v = .ref p ∧ (SqL K ω.H p vs ∨ SqT K ω.H p vs) ∧ Rps K ω vs xs := by
  cases r with
  | tup h1 h2 =>
    have e := Option.some.inj (show some _ = some xs from h)
    subst e
    exact ⟨_, _, rfl, .inr h1.sq, h2⟩
  | lst h1 h2 =>
    have e := Option.some.inj (show some _ = some xs from h)
    subst e
    exact ⟨_, _, rfl, .inl h1.sq, h2⟩
  | ro h1 h2 =>
    have e := Option.some.inj (show some _ = some xs from h)
    subst e
    exact ⟨_, _, rfl, .inl h1.sq, h2⟩
  | @loc n a h1 =>
    have h : (S[n]?).join = some xs := h
    cases q : S[n]? with
    | none => rw [q] at h; cases h
    | some c =>
      rw [q] at h
      have h : c = some xs := h
      subst h
      obtain ⟨b, vs, e1, e2, _, e4⟩ := sr.live n xs q
      rw [h1] at e1
      cases e1
      exact ⟨_, vs, rfl, .inl (.inl (.inl e2)), e4⟩
  | _ => exact nomatch h
theorem list_rd {K : PySem.W.Frag} {ω : Wd} {S : Store} {v : V} {d : W} {xs : List W} (sr : SR K ω S) (r : Rp K ω v d) (h : listOf S d = some xs) : ∃ p vs, v = .ref p ∧ SqL K ω.H p vs ∧ Rps K ω vs xs := by
  cases r with
  | lst h1 h2 =>
    have e := Option.some.inj (show some _ = some xs from h)
    subst e
    exact ⟨_, _, rfl, h1.sq, h2⟩
  | ro h1 h2 =>
    have e := Option.some.inj (show some _ = some xs from h)
    subst e
    exact ⟨_, _, rfl, h1.sq, h2⟩
  | @loc n a h1 =>
    have h : (S[n]?).join = some xs := h
    cases q : S[n]? with
    | none => rw [q] at h; cases h
    | some c =>
      rw [q] at h
      have h : c = some xs := h
      subst h
      obtain ⟨b, vs, e1, e2, _, e4⟩ := sr.live n xs q
      rw [h1] at e1
      cases e1
      exact ⟨_, vs, rfl, .inl (.inl e2), e4⟩
  | _ => exact nomatch h
/-- the truth -/
theorem tru_rd {K : PySem.W.Frag} {ω : Wd} {S : Store} {v : V} {d : W} {k : Bool} (sr : SR K ω S) (r : Rp K ω v d) (h : truW S d = some k) : TruV K v ω.H k := by
  cases r with
  | non => exact (Option.some.inj h).symm
  | bl b => exact (Option.some.inj h).symm
  | int i => exact (Option.some.inj h).symm
  | str x =>
    have h : (if x.length ≤ sizeLine then some ((x.length : Int) != 0) else none) = some k := h
    split at h
    · rename_i q
      exact ⟨q, (Option.some.inj h).symm⟩
    · cases h
  | tup h1 h2 =>
    refine .inr (.inl ⟨_, h1.sq, ?_⟩)
    have e := (Option.some.inj h).symm
    rw [e]
    cases h2 <;> rfl
  | lst h1 h2 =>
    refine .inl ⟨_, h1.sq, ?_⟩
    have e := (Option.some.inj h).symm
    rw [e]
    cases h2 <;> rfl
  | ro h1 h2 =>
    refine .inl ⟨_, h1.sq, ?_⟩
    have e := (Option.some.inj h).symm
    rw [e]
    cases h2 <;> rfl
  | @loc n a h1 =>
    have h : ((S[n]?).join).map (fun xs => !xs.isEmpty) = some k := h
    cases q : S[n]? with
    | none => rw [q] at h; cases h
    | some c =>
      rw [q] at h
      cases c with
      | none => cases h
      | some xs =>
        have h : some (!xs.isEmpty) = some k := h
        obtain ⟨b, vs, e1, e2, _, e4⟩ := sr.live n xs q
        rw [h1] at e1
        cases e1
        refine .inl ⟨vs, .inl (.inl e2), ?_⟩
        rw [← Option.some.inj h]
        cases e4 <;> rfl
  | edict h1 _ =>
    refine .inr (.inr ⟨[], h1, ?_⟩)
    exact (Option.some.inj h).symm

/-! ### operators -/
def bopOf : Bop → Operator
  | .add => .Add | .sub => .Sub | .mul => .Mult | .fdiv => .FloorDiv | .mod => .Mod | .pow => .Pow
def rBin (K : PySem.W.Frag) (op : Bop) : R2 := fun x y H Q => ∃ ω S d e z, ω.H = H ∧ SR K ω S ∧ Rp K ω x d ∧ Rp K ω y e ∧ binW S op d e = some z ∧ ∀ v ω', Ext ω ω' → SR K ω' S → Rp K ω' v z → Q v ω'.H
section
variable {X : Cx}
theorem op_mulB : OpR X (binaryOp .Mult) (rI (fun a b => (a.natAbs < 2 ^ 64 ∨ b.natAbs < 2 ^ 64) ∨ a.natAbs.log2 + b.natAbs.log2 < 100000000) fun i j => .int (i * j)) := opI fun i j _ _ _ _ _ hc q => PyProof.Rows.mul_int q (by
  rcases hc with (h | h) | h
  · exact .of_left (intBits_le_64 (by omega) (by omega))
  · exact .of_right (intBits_le_64 (by omega) (by omega))
  · have b : ∀ x : Int, Builtin.Int.intBits x ≤ x.natAbs.log2 + 1 := fun x => by
      unfold Builtin.Int.intBits
      split <;> omega
    have h1 := b i
    have h2 := b j
    have e : bitsLine = 134217728 := by decide
    unfold IntMulOk
    intro z
    rw [Bool.and_eq_true] at z
    have z2 := z.2
    unfold Builtin.Int.intTooBig at z2
    have z3 := of_decide_eq_true z2
    rw [e] at z3
    omega)
theorem op_fdivB : OpR X (binaryOp .FloorDiv) (rI (fun a b => b ≠ 0 ∧ Builtin.divisionGoesByPylong a b = false) fun i j => .int (i.fdiv j)) := opI fun i j _ _ _ _ _ hc q => PyProof.Rows.floordiv_int hc.1 q (.inl hc.2)
theorem op_bin (op : Bop) : OpR X (binaryOp (bopOf op)) (rBin X.K op) := by
  intro pins s σ H x y v u Q I rx ry h
  obtain ⟨ω, S, d, e, z, rfl, sr, hd, he, hz, q⟩ := h
  have qi : ∀ i : Int, z = .int i → Q (.int i) ω.H := fun i ez => q (.int i) ω (.refl ω) sr (by rw [ez]; exact .int i)
  cases op with
  | add =>
    cases hd with
    | int i =>
      cases he with
      | int j => exact op_add pins s σ ω.H _ _ v u Q I rx ry ⟨i, j, rfl, rfl, qi _ (Option.some.inj hz).symm⟩
      | _ => exact nomatch hz
    | lst h1 h2 =>
      cases he with
      | lst h3 h4 =>
        have hz : (if _ ≤ sizeLine then some (W.lst (_ ++ _)) else none) = some z := hz
        split at hz
        · rename_i le
          refine op_cat pins s σ ω.H _ _ v u Q I rx ry ⟨_, _, _, _, rfl, rfl, h1.1, h3.1, by rw [h2.length, h4.length]; exact le, fun p hp => ?_⟩
          have ez := Option.some.inj hz
          subst ez
          exact q (.ref p) (ω.new p _) (.new_ hp) (sr.new_ hp) (.newLst sr hp (h2.append h4))
        · cases hz
      | _ => exact nomatch hz
    | tup h1 h2 =>
      cases he with
      | tup h3 h4 =>
        have hz : (if _ ≠ [] ∧ _ ≤ sizeLine then some (W.tup (_ ++ _)) else none) = some z := hz
        split at hz
        · rename_i le
          have ez := Option.some.inj hz
          subst ez
          refine op_catT pins s σ ω.H _ _ v u Q I rx ry ⟨_, _, _, _, rfl, rfl, h1.sq, h3.sq, fun z => le.1 ?_, by rw [h2.length, h4.length]; exact le.2, fun z => ?_, fun _ p hp => ?_⟩
          · subst z; cases h2; rfl
          · subst z
            cases h4
            rw [List.append_nil] at q
            exact q _ ω (.refl ω) sr (.tup h1 h2)
          · exact q (.ref p) (ω.new p _) (.new_ hp) (sr.new_ hp) (.newT sr hp (h2.append h4))
        · cases hz
      | _ => exact nomatch hz
    | _ => exact nomatch hz
  | sub =>
    cases hd with
    | int i =>
      cases he with
      | int j => exact op_sub pins s σ ω.H _ _ v u Q I rx ry ⟨i, j, rfl, rfl, qi _ (Option.some.inj hz).symm⟩
      | _ => exact nomatch hz
    | _ => exact nomatch hz
  | mul =>
    cases hd with
    | int i =>
      cases he with
      | int j =>
        have hz : (if _ then some (W.int (i * j)) else none) = some z := hz
        split at hz
        · rename_i c
          exact op_mulB pins s σ ω.H _ _ v u Q I rx ry ⟨i, j, rfl, rfl, c, qi _ (Option.some.inj hz).symm⟩
        · cases hz
      | _ => exact nomatch hz
    | lst h1 h2 =>
      cases he with
      | int j =>
        have hz : (if _ then some (W.lst (List.replicate j.toNat _).flatten) else none) = some z := hz
        split at hz
        · rename_i c
          have ez := Option.some.inj hz
          subst ez
          exact op_rep pins s σ ω.H _ _ v u Q I rx ry ⟨_, j, _, rfl, rfl, h1.1, c.1, c.2.1, by rw [h2.length]; exact c.2.2, fun p hp => q (.ref p) (ω.new p _) (.new_ hp) (sr.new_ hp) (.newLst sr hp (h2.flat _))⟩
        · cases hz
      | _ => exact nomatch hz
    | _ => exact nomatch hz
  | fdiv =>
    cases hd with
    | int i =>
      cases he with
      | int j =>
        have hz : (if _ then some (W.int (i.fdiv j)) else none) = some z := hz
        split at hz
        · rename_i c
          exact op_fdivB pins s σ ω.H _ _ v u Q I rx ry ⟨i, j, rfl, rfl, c, qi _ (Option.some.inj hz).symm⟩
        · cases hz
      | _ => exact nomatch hz
    | _ => exact nomatch hz
  | mod =>
    cases hd with
    | int i =>
      cases he with
      | int j =>
        have hz : (if _ then some (W.int (i.fmod j)) else none) = some z := hz
        split at hz
        · rename_i c
          exact op_modN pins s σ ω.H _ _ v u Q I rx ry ⟨i, j, rfl, rfl, c, qi _ (Option.some.inj hz).symm⟩
        · cases hz
      | _ => exact nomatch hz
    | _ => exact nomatch hz
  | pow =>
    cases hd with
    | int i =>
      cases he with
      | int j =>
        have hz : (if _ then some (W.int (i ^ j.toNat)) else none) = some z := hz
        split at hz
        · rename_i c
          exact op_pow pins s σ ω.H _ _ v u Q I rx ry ⟨i, j, rfl, rfl, c, qi _ (Option.some.inj hz).symm⟩
        · cases hz
      | _ => exact nomatch hz
    | _ => exact nomatch hz

def copOf : Cop → CmpOp
  | .eq => .Eq | .ne => .NotEq | .lt => .Lt | .le => .LtE | .gt => .Gt | .ge => .GtE | .isN => .Is | .notN => .IsNot | .inn => .In | .notIn => .NotIn
def rCmpW (K : PySem.W.Frag) (op : Cop) : R2 := fun x y H Q => ∃ ω S d e z, ω.H = H ∧ SR K ω S ∧ Rp K ω x d ∧ Rp K ω y e ∧ cmpW S op d e = some z ∧ ∀ k, z = .bl k → Q (.bl k) H
theorem cmp_bl {S : Store} {op : Cop} {d e z : W} (h : cmpW S op d e = some z) : ∃ k, z = .bl k := by
  unfold cmpW at h
  split at h
  all_goals first
    | exact ⟨_, (Option.some.inj h).symm⟩
    | (cases q : W.same _ _ with
        | none => rw [q] at h; cases h
        | some k => rw [q] at h; exact ⟨_, (Option.some.inj h).symm⟩)
    | (split at h
       · cases q : W.mem _ _ with
         | none => rw [q] at h; cases h
         | some k => rw [q] at h; exact ⟨_, (Option.some.inj h).symm⟩
       · cases h)
    | cases h
theorem op_cmp (op : Cop) (hu : X.A.units + 64 < cLine) : OpR X (compareOp (copOf op)) (rCmpW X.K op) := by
  intro pins s σ H x y v u Q I rx ry h
  obtain ⟨ω, S, d, e, z, rfl, sr, hd, he, hz, q⟩ := h
  cases op with
  | eq =>
    have hz : (W.same d e).map W.bl = some z := hz
    cases q1 : W.same d e with
    | none => rw [q1] at hz; cases hz
    | some k =>
      rw [q1] at hz
      obtain ⟨o1, o2, rfl⟩ := same_some q1
      have p1 := py_plain d 40 o1
      have p2 := py_plain e 40 o2
      exact op_same hu pins s σ ω.H _ _ v u Q I rx ry ⟨d.py, e.py, hd.dp 40 o1, he.dp 40 o2, p1.1, p2.1, by omega, by rw [py_eqv d e 40 o1 o2]; exact q _ (Option.some.inj hz).symm⟩
  | ne =>
    have hz : (W.same d e).map (fun k => W.bl (!k)) = some z := hz
    cases q1 : W.same d e with
    | none => rw [q1] at hz; cases hz
    | some k =>
      rw [q1] at hz
      obtain ⟨o1, o2, rfl⟩ := same_some q1
      have p1 := py_plain d 40 o1
      have p2 := py_plain e 40 o2
      exact op_diff hu pins s σ ω.H _ _ v u Q I rx ry ⟨d.py, e.py, hd.dp 40 o1, he.dp 40 o2, p1.1, p2.1, by omega, by rw [py_eqv d e 40 o1 o2]; exact q _ (Option.some.inj hz).symm⟩
  | lt =>
    cases hd with
    | int i =>
      cases he with
      | int j => exact op_lt pins s σ ω.H _ _ v u Q I rx ry ⟨i, j, rfl, rfl, q _ (Option.some.inj hz).symm⟩
      | _ => exact nomatch hz
    | _ => exact nomatch hz
  | le =>
    cases hd with
    | int i =>
      cases he with
      | int j => exact op_le pins s σ ω.H _ _ v u Q I rx ry ⟨i, j, rfl, rfl, q _ (Option.some.inj hz).symm⟩
      | _ => exact nomatch hz
    | _ => exact nomatch hz
  | gt =>
    cases hd with
    | int i =>
      cases he with
      | int j => exact op_gt pins s σ ω.H _ _ v u Q I rx ry ⟨i, j, rfl, rfl, q _ (Option.some.inj hz).symm⟩
      | _ => exact nomatch hz
    | _ => exact nomatch hz
  | ge =>
    cases hd with
    | int i =>
      cases he with
      | int j => exact op_ge pins s σ ω.H _ _ v u Q I rx ry ⟨i, j, rfl, rfl, q _ (Option.some.inj hz).symm⟩
      | _ => exact nomatch hz
    | _ => exact nomatch hz
  | isN =>
    cases he with
    | non =>
      refine op_isN pins s σ ω.H _ _ v u Q I rx ry ⟨rfl, q _ ?_⟩
      cases hd <;> exact (Option.some.inj hz).symm
    | _ => cases hd <;> exact nomatch hz
  | notN =>
    cases he with
    | non =>
      refine op_notN pins s σ ω.H _ _ v u Q I rx ry ⟨rfl, q _ ?_⟩
      cases hd <;> exact (Option.some.inj hz).symm
    | _ => cases hd <;> exact nomatch hz
  | inn =>
    have hz : (match itemsOf S e with | some xs => (W.mem d xs).map W.bl | none => none) = some z := hz
    cases q0 : itemsOf S e with
    | none => rw [q0] at hz; cases hz
    | some es =>
      rw [q0] at hz
      have hz : (W.mem d es).map W.bl = some z := hz
      cases q1 : W.mem d es with
      | none => rw [q1] at hz; cases hz
      | some k =>
        rw [q1] at hz
        obtain ⟨o1, o2, rfl⟩ := mem_some q1
        obtain ⟨p, vs, rfl, hs, hr⟩ := items_rd sr he q0
        have p1 := py_plain d 40 o1
        have p2 := pys_plain es 40 o2
        exact op_mem hu pins s σ ω.H _ _ v u Q I rx ry ⟨d.py, p, vs, W.pys es, hd.dp 40 o1, rfl, hs, hr.dp 40 o2, p1.1, p2.1, by omega, by rw [pys_any es d o2 o1]; exact q _ (Option.some.inj hz).symm⟩
  | notIn =>
    have hz : (match itemsOf S e with | some xs => (W.mem d xs).map (fun k => W.bl (!k)) | none => none) = some z := hz
    cases q0 : itemsOf S e with
    | none => rw [q0] at hz; cases hz
    | some es =>
      rw [q0] at hz
      have hz : (W.mem d es).map (fun k => W.bl (!k)) = some z := hz
      cases q1 : W.mem d es with
      | none => rw [q1] at hz; cases hz
      | some k =>
        rw [q1] at hz
        obtain ⟨o1, o2, rfl⟩ := mem_some q1
        obtain ⟨p, vs, rfl, hs, hr⟩ := items_rd sr he q0
        have p1 := py_plain d 40 o1
        have p2 := pys_plain es 40 o2
        exact op_nmem hu pins s σ ω.H _ _ v u Q I rx ry ⟨d.py, p, vs, W.pys es, hd.dp 40 o1, rfl, hs, hr.dp 40 o2, p1.1, p2.1, by omega, by rw [pys_any es d o2 o1]; exact q _ (Option.some.inj hz).symm⟩
end
end Rf

namespace Rf
open PySem PySem.Spec L2

/-! ### built-ins -/
def bltVal : Blt → Value
  | .len => .builtin "len" | .abs => .builtin "abs" | .max2 => .builtin "max" | .min2 => .builtin "min" | .int => .type "int" | .sum => .builtin "sum" | .all => .builtin "all" | .any => .builtin "any"
  | .list => .type "list" | .tuple => .type "tuple" | .gcd => .builtin "math.gcd" | .lcm => .builtin "math.lcm" | .max1 => .builtin "max" | .min1 => .builtin "min"
def bltFresh : Blt → Bool
  | .list => true
  | _ => false
def rBlt (K : PySem.W.Frag) (b : Blt) : List V → Hp → VK → Prop := fun xs H Q => ∃ ω S ds z, ω.H = H ∧ SR K ω S ∧ Rps K ω xs ds ∧ bltW S b ds = some z ∧ ∀ v ω', Ext ω ω' → SR K ω' S → Post K (bltFresh b) ω ω' v z → Q v ω'.H
theorem one_rps {K : PySem.W.Frag} {ω : Wd} {xs : List V} {d : W} (h : Rps K ω xs [d]) : ∃ x, xs = [x] ∧ Rp K ω x d := by
  cases h with
  | cons h r => cases r; exact ⟨_, rfl, h⟩
theorem two_rps {K : PySem.W.Frag} {ω : Wd} {xs : List V} {d e : W} (h : Rps K ω xs [d, e]) : ∃ x y, xs = [x, y] ∧ Rp K ω x d ∧ Rp K ω y e := by
  cases h with
  | cons h r =>
    obtain ⟨y, rfl, hy⟩ := one_rps r
    exact ⟨_, y, rfl, h, hy⟩
theorem ints_rps {K : PySem.W.Frag} {ω : Wd} : ∀ {vs : List V} {ds : List W} {ns : List Int}, Rps K ω vs ds → intsOf ds = some ns → vs = ns.map V.int
  | _, _, _, .nil, h => by cases h; rfl
  | _, _, ns, @Rps.cons _ _ v d vs ds h r, e => by
    cases h with
    | int i =>
      have e : (intsOf ds).map (i :: ·) = some ns := e
      cases q : intsOf ds with
      | none => rw [q] at e; cases e
      | some ms =>
        rw [q] at e
        have e := Option.some.inj e
        subst e
        rw [ints_rps r q]
        rfl
    | _ => exact nomatch e
theorem bools_rps {K : PySem.W.Frag} {ω : Wd} : ∀ {vs : List V} {ds : List W} {bs : List Bool}, Rps K ω vs ds → boolsOf ds = some bs → vs = bs.map V.bl
  | _, _, _, .nil, h => by cases h; rfl
  | _, _, bs, @Rps.cons _ _ v d vs ds h r, e => by
    cases h with
    | bl i =>
      have e : (boolsOf ds).map (i :: ·) = some bs := e
      cases q : boolsOf ds with
      | none => rw [q] at e; cases e
      | some ms =>
        rw [q] at e
        have e := Option.some.inj e
        subst e
        rw [bools_rps r q]
        rfl
    | _ => exact nomatch e
section
variable {X : Cx}
theorem call_gcd : CallR X (.builtin "math.gcd") (fun xs H Q => ∃ i j, xs = [.int i, .int j] ∧ Q (.int (i.natAbs.gcd j.natAbs : Nat)) H) := by
  intro pins s σ H xs us Q I r h
  obtain ⟨i, j, rfl, q⟩ := h
  obtain ⟨u, w', rfl, ⟨t, rfl⟩, ⟨t', rfl⟩⟩ := vals2 r
  exact PySem.W.mg_gcd_v rfl ⟨.int _, H, I.tok _, ⟨_, rfl⟩, q⟩
theorem call_lcm : CallR X (.builtin "math.lcm") (fun xs H Q => ∃ i j, xs = [.int i, .int j] ∧ (i.natAbs.log2 < 13000 ∧ j.natAbs.log2 < 13000) ∧ Q (.int (i.natAbs.lcm j.natAbs : Nat)) H) := by
  intro pins s σ H xs us Q I r h
  obtain ⟨i, j, rfl, ⟨h1, h2⟩, q⟩ := h
  obtain ⟨u, w', rfl, ⟨t, rfl⟩, ⟨t', rfl⟩⟩ := vals2 r
  have m1 : (max 1 i.natAbs).log2 < 13000 := by
    rcases Nat.le_total 1 i.natAbs with z | z
    · rw [Nat.max_eq_right z]; exact h1
    · rw [Nat.max_eq_left z]; decide
  have m2 : (max i.natAbs j.natAbs).log2 < 13000 := by
    rcases Nat.le_total i.natAbs j.natAbs with z | z
    · rw [Nat.max_eq_right z]; exact h2
    · rw [Nat.max_eq_left z]; exact h1
  have e1 : (Nat.lcm 1 i.natAbs).lcm j.natAbs = i.natAbs.lcm j.natAbs := by rw [Nat.lcm_one_left]
  have hb : (((Nat.lcm 1 i.natAbs).lcm j.natAbs : Nat) : Int).natAbs.log2 < bitsLine := by
    rw [e1, Int.natAbs_natCast]
    have l1 : i.natAbs < 2 ^ 13001 := by
      by_cases z : i.natAbs = 0
      · rw [z]; exact Nat.two_pow_pos _
      · exact Nat.lt_of_lt_of_le ((Nat.log2_lt z).mp (Nat.lt_succ_self _)) (Nat.pow_le_pow_right (by decide) (by omega))
    have l2 : j.natAbs < 2 ^ 13001 := by
      by_cases z : j.natAbs = 0
      · rw [z]; exact Nat.two_pow_pos _
      · exact Nat.lt_of_lt_of_le ((Nat.log2_lt z).mp (Nat.lt_succ_self _)) (Nat.pow_le_pow_right (by decide) (by omega))
    have l3 : i.natAbs.lcm j.natAbs ≤ i.natAbs * j.natAbs := by
      unfold Nat.lcm
      exact Nat.div_le_self _ _
    have l4 : i.natAbs * j.natAbs < 2 ^ 13001 * 2 ^ 13001 := Nat.mul_lt_mul'' l1 l2
    rw [← Nat.pow_add] at l4
    have e : bitsLine = 134217728 := by decide
    rw [e]
    by_cases z : i.natAbs.lcm j.natAbs = 0
    · rw [z]; decide
    · exact (Nat.log2_lt z).mpr (Nat.lt_of_lt_of_le (Nat.lt_of_le_of_lt l3 l4) (Nat.pow_le_pow_right (by decide) (by decide)))
  refine PySem.call_function_meets PySem.W.MGF.kind_lcm PySem.W.MGF.plain_lcm PySem.W.MGF.entry_lcm (PySem.W.MGF.args_lcm _ _) (PySem.W.mg_run_lcm i t j t' (by omega) (by omega) hb).meets ?_
  rw [e1]
  exact ⟨.int _, H, I.tok _, ⟨_, rfl⟩, q⟩
theorem call_blt (b : Blt) (hc : X.calm = true) : CallR X (bltVal b) (rBlt X.K b) := by
  intro pins s σ H xs us Q I r h
  obtain ⟨ω, S, ds, z, rfl, sr, hd, hz, q⟩ := h
  have qr : ∀ {v : V}, bltFresh b = false → Rp X.K ω v z → Q v ω.H := fun {v} hf h => q v ω (.refl ω) sr (by unfold Post; rw [hf, if_neg Bool.false_ne_true]; exact h)
  cases b with
  | len =>
    match ds, hd, hz with
    | [a], hd, hz =>
      obtain ⟨x, rfl, hx⟩ := one_rps hd
      by_cases hs : ∃ y, a = .str y
      · obtain ⟨y, rfl⟩ := hs
        cases hx
        have hz : (if y.length ≤ sizeLine then some (W.int y.length) else none) = some z := hz
        split at hz
        · rename_i le
          exact call_len pins s σ ω.H _ us Q I r ⟨.str y, y.length, rfl, ⟨le, rfl⟩, qr rfl (by rw [← Option.some.inj hz]; exact .int _)⟩
        · cases hz
      · have hz : (itemsOf S a).map (fun xs => W.int xs.length) = some z := by
          cases a with
          | str y => exact absurd ⟨y, rfl⟩ hs
          | _ => exact hz
        cases e : itemsOf S a with
        | none => rw [e] at hz; cases hz
        | some ys =>
          rw [e] at hz
          obtain ⟨p, vs, rfl, hq, hr⟩ := items_rd sr hx e
          refine call_len pins s σ ω.H _ us Q I r ⟨.ref p, ys.length, rfl, ?_, qr rfl (by rw [← Option.some.inj hz]; exact .int _)⟩
          rcases hq with hq | hq
          · exact .inl ⟨vs, hq, hr.length.symm⟩
          · exact .inr ⟨vs, hq, hr.length.symm⟩
    | [], _, hz => exact nomatch hz
    | _ :: _ :: _, _, hz => exact absurd hz (by simp [bltW])
  | abs =>
    match ds, hd, hz with
    | [.int i], hd, hz =>
      obtain ⟨x, rfl, hx⟩ := one_rps hd
      cases hx
      exact call_abs pins s σ ω.H _ us Q I r ⟨i, rfl, qr rfl (by rw [← Option.some.inj hz]; exact .int _)⟩
  | max2 =>
    match ds, hd, hz with
    | [.int i, .int j], hd, hz =>
      obtain ⟨x, y, rfl, hx, hy⟩ := two_rps hd
      cases hx
      cases hy
      exact call_max2 hc pins s σ ω.H _ us Q I r ⟨i, j, rfl, qr rfl (by rw [← Option.some.inj hz]; exact .int _)⟩
  | min2 =>
    match ds, hd, hz with
    | [.int i, .int j], hd, hz =>
      obtain ⟨x, y, rfl, hx, hy⟩ := two_rps hd
      cases hx
      cases hy
      exact call_min2 hc pins s σ ω.H _ us Q I r ⟨i, j, rfl, qr rfl (by rw [← Option.some.inj hz]; exact .int _)⟩
  | int =>
    match ds, hd, hz with
    | [.int i], hd, hz =>
      obtain ⟨x, rfl, hx⟩ := one_rps hd
      cases hx
      exact call_int1 pins s σ ω.H _ us Q I r (.inl ⟨i, rfl, qr rfl (by rw [← Option.some.inj hz]; exact .int _)⟩)
    | [.bl k], hd, hz =>
      obtain ⟨x, rfl, hx⟩ := one_rps hd
      cases hx
      exact call_int1 pins s σ ω.H _ us Q I r (.inr ⟨k, rfl, qr rfl (by rw [← Option.some.inj hz]; exact .int _)⟩)
  | sum =>
    match ds, hd, hz with
    | [a], hd, hz =>
      obtain ⟨x, rfl, hx⟩ := one_rps hd
      have hz : (match listOf S a with | some xs => (intsOf xs).map (fun ns => W.int ns.sum) | none => none) = some z := hz
      cases e : listOf S a with
      | none => rw [e] at hz; cases hz
      | some ys =>
        rw [e] at hz
        have hz : (intsOf ys).map (fun ns => W.int ns.sum) = some z := hz
        cases e2 : intsOf ys with
        | none => rw [e2] at hz; cases hz
        | some ns =>
          rw [e2] at hz
          obtain ⟨p, vs, rfl, hq, hr⟩ := list_rd sr hx e
          rw [ints_rps hr e2] at hq
          exact cr_sum hc pins s σ ω.H _ us Q I r ⟨p, ns, rfl, hq, qr rfl (by rw [← Option.some.inj hz]; exact .int _)⟩
    | [], _, hz => exact nomatch hz
    | _ :: _ :: _, _, hz => exact nomatch hz
  | all =>
    match ds, hd, hz with
    | [a], hd, hz =>
      obtain ⟨x, rfl, hx⟩ := one_rps hd
      have hz : (match listOf S a with | some xs => (boolsOf xs).map (fun bs => W.bl (bs.all id)) | none => none) = some z := hz
      cases e : listOf S a with
      | none => rw [e] at hz; cases hz
      | some ys =>
        rw [e] at hz
        have hz : (boolsOf ys).map (fun bs => W.bl (bs.all id)) = some z := hz
        cases e2 : boolsOf ys with
        | none => rw [e2] at hz; cases hz
        | some bs =>
          rw [e2] at hz
          obtain ⟨p, vs, rfl, hq, hr⟩ := list_rd sr hx e
          rw [bools_rps hr e2] at hq
          exact cr_all hc pins s σ ω.H _ us Q I r ⟨p, bs, rfl, hq, qr rfl (by rw [← Option.some.inj hz]; exact .bl _)⟩
    | [], _, hz => exact nomatch hz
    | _ :: _ :: _, _, hz => exact nomatch hz
  | any =>
    match ds, hd, hz with
    | [a], hd, hz =>
      obtain ⟨x, rfl, hx⟩ := one_rps hd
      have hz : (match listOf S a with | some xs => (boolsOf xs).map (fun bs => W.bl (bs.any id)) | none => none) = some z := hz
      cases e : listOf S a with
      | none => rw [e] at hz; cases hz
      | some ys =>
        rw [e] at hz
        have hz : (boolsOf ys).map (fun bs => W.bl (bs.any id)) = some z := hz
        cases e2 : boolsOf ys with
        | none => rw [e2] at hz; cases hz
        | some bs =>
          rw [e2] at hz
          obtain ⟨p, vs, rfl, hq, hr⟩ := list_rd sr hx e
          rw [bools_rps hr e2] at hq
          exact cr_any hc pins s σ ω.H _ us Q I r ⟨p, bs, rfl, hq, qr rfl (by rw [← Option.some.inj hz]; exact .bl _)⟩
    | [], _, hz => exact nomatch hz
    | _ :: _ :: _, _, hz => exact nomatch hz
  | list =>
    match ds, hd, hz with
    | [a], hd, hz =>
      obtain ⟨x, rfl, hx⟩ := one_rps hd
      have hz : (itemsOf S a).map W.lst = some z := hz
      cases e : itemsOf S a with
      | none => rw [e] at hz; cases hz
      | some ys =>
        rw [e] at hz
        have ez := Option.some.inj hz
        subst ez
        obtain ⟨p, vs, rfl, hq, hr⟩ := items_rd sr hx e
        refine call_list_of pins s σ ω.H _ us Q I r ⟨p, vs, rfl, hq, fun l hl => ?_⟩
        exact q (.ref l) (ω.newL l vs) (.newL hl) (sr.newL hl) (Fresh.newL sr (.refl ω) sr hl hr)
    | [], _, hz => exact nomatch hz
    | _ :: _ :: _, _, hz => exact nomatch hz
  | tuple =>
    match ds, hd, hz with
    | [a], hd, hz =>
      obtain ⟨x, rfl, hx⟩ := one_rps hd
      by_cases ht : ∃ ys, a = .tup ys
      · obtain ⟨ys, rfl⟩ := ht
        have ez := Option.some.inj (show some (W.tup ys) = some z from hz)
        subst ez
        cases hx with
        | tup h1 h2 => exact call_tuple_of pins s σ ω.H _ us Q I r ⟨_, _, rfl, .inr ⟨h1.sq, qr rfl (.tup h1 h2)⟩⟩
      · have hz : (listOf S a).map W.tup = some z := by
          cases a with
          | tup y => exact absurd ⟨y, rfl⟩ ht
          | _ => exact hz
        cases e : listOf S a with
        | none => rw [e] at hz; cases hz
        | some ys =>
          rw [e] at hz
          have ez := Option.some.inj hz
          subst ez
          obtain ⟨p, vs, rfl, hq, hr⟩ := list_rd sr hx e
          refine call_tuple_of pins s σ ω.H _ us Q I r ⟨p, vs, rfl, .inl ⟨hq, fun l hl => ?_⟩⟩
          exact q (.ref l) (ω.new l _) (.new_ hl) (sr.new_ hl) (by unfold Post; rw [show bltFresh .tuple = false from rfl, if_neg Bool.false_ne_true]; exact .newT sr hl hr)
    | [], _, hz => exact nomatch hz
    | _ :: _ :: _, _, hz => exact absurd hz (by simp [bltW])
  | gcd =>
    match ds, hd, hz with
    | [.int i, .int j], hd, hz =>
      obtain ⟨x, y, rfl, hx, hy⟩ := two_rps hd
      cases hx
      cases hy
      exact call_gcd pins s σ ω.H _ us Q I r ⟨i, j, rfl, qr rfl (by rw [← Option.some.inj hz]; exact .int _)⟩
  | lcm =>
    match ds, hd, hz with
    | [.int i, .int j], hd, hz =>
      obtain ⟨x, y, rfl, hx, hy⟩ := two_rps hd
      cases hx
      cases hy
      have hz : (if _ then some (W.int (i.natAbs.lcm j.natAbs : Nat)) else none) = some z := hz
      split at hz
      · rename_i c
        exact call_lcm pins s σ ω.H _ us Q I r ⟨i, j, rfl, c, qr rfl (by rw [← Option.some.inj hz]; exact .int _)⟩
      · cases hz
  | max1 => exact nomatch hz
  | min1 => exact nomatch hz
end
end Rf

namespace Rf
open PySem PySem.Spec L2

/-! ### isinstance -/
def tyNames : List String := ["bool", "int", "str", "tuple", "list", "dict"]
def tyAll : List String := ["NoneType", "bool", "int", "str", "tuple", "list", "dict"]
theorem kit_tab : (tyAll.all fun a => tyNames.all fun b => decide (kitB a b = some (a == b || (a == "bool" && b == "int")))) = true := by decide +kernel
theorem kit_of_tab {a b : String} (ha : a ∈ tyAll) (hb : b ∈ tyNames) : kitB a b = some (a == b || (a == "bool" && b == "int")) :=
  of_decide_eq_true (List.all_eq_true.mp (List.all_eq_true.mp kit_tab a ha) b hb)
def tyNm : W → Option String
  | .non => some "NoneType" | .bl _ => some "bool" | .int _ => some "int" | .str _ => some "str" | .tup _ => some "tuple" | .lst _ => some "list" | .edict => some "dict"
  | .ro _ => none | .loc _ => none
theorem tyNm_mem {d : W} {a : String} (h : tyNm d = some a) : a ∈ tyAll := by
  cases d <;> first
    | (rw [← Option.some.inj h]; simp [tyAll])
    | exact nomatch h
theorem isi_nm {d : W} {t : String} {k : Bool} (ht : t ∈ tyNames) (h : isiOne d t = some k) : ∃ a, tyNm d = some a ∧ (a == t || (a == "bool" && t == "int")) = k := by
  cases d <;> first
    | (refine ⟨_, rfl, ?_⟩
       rw [← Option.some.inj h]
       simp [tyNames] at ht
       rcases ht with rfl | rfl | rfl | rfl | rfl | rfl <;> rfl)
    | exact nomatch h
theorem ty_at {K : PySem.W.Frag} {ω : Wd} {v : V} {d : W} {a : String} (r : Rp K ω v d) (h : tyNm d = some a) : TyX K ω.H v (.type a) := by
  cases r with
  | non => rw [← Option.some.inj h]; exact .base .non
  | bl b => rw [← Option.some.inj h]; exact .base (.bl b)
  | int i => rw [← Option.some.inj h]; exact .base (.int i)
  | str x => rw [← Option.some.inj h]; exact .base (.str x)
  | tup h1 h2 =>
    rw [← Option.some.inj h]
    rcases h1 with ⟨h1 | ⟨o, h1⟩, _⟩ | (h1 | ⟨_, h1⟩) | ⟨o, its, n, h1, h3, _⟩
    · exact .base (.tup h1)
    · exact .fTuple h1
    · exact nomatch (show (none : Option HO) = some _ from h1)
    · exact nomatch (show (none : Option HO) = some _ from h1)
    · exact .kTuple h1 h3
  | lst h1 h2 => rw [← Option.some.inj h]; exact .base (.lst h1.1)
  | edict h1 h2 => rw [← Option.some.inj h]; exact .base (.dK h1)
  | ro h1 h2 => exact nomatch h
  | loc h1 => exact nomatch h
theorem isi_one {K : PySem.W.Frag} {d : W} {t : String} {k : Bool} (ht : t ∈ tyNames) (h : isiOne d t = some k) : ∃ a, tyNm d = some a ∧ PySem.W.kitOne K (.type a) (.type t) = some k := by
  obtain ⟨a, h1, h2⟩ := isi_nm ht h
  exact ⟨a, h1, kit_ty (by rw [kit_of_tab (tyNm_mem h1) ht, h2])⟩
theorem isi_any {K : PySem.W.Frag} {d : W} : ∀ {ts : List String} {k : Bool}, (∀ t ∈ ts, t ∈ tyNames) → isiW d ts = some k → ts ≠ [] → ∃ a, tyNm d = some a ∧ PySem.W.kitAny K (.type a) (ts.map Value.type) = some k
  | [], _, _, _, hn => absurd rfl hn
  | [t], k, ht, h, _ => by
    have h : (match isiOne d t, isiW d [] with | some x, some y => some (x || y) | _, _ => none) = some k := h
    cases q : isiOne d t with
    | none => rw [q] at h; cases h
    | some x =>
      rw [q] at h
      have h : some (x || false) = some k := h
      obtain ⟨a, ta, ka⟩ := isi_one (K := K) (ht t (by simp)) q
      refine ⟨a, ta, ?_⟩
      have e := Option.some.inj h
      rw [Bool.or_false] at e
      subst e
      exact kitAny_cons ka (fun z => by rw [z]; exact kitAny_nil) fun z => z
  | t :: t2 :: ts, k, ht, h, _ => by
    have h : (match isiOne d t, isiW d (t2 :: ts) with | some x, some y => some (x || y) | _, _ => none) = some k := h
    cases q : isiOne d t with
    | none => rw [q] at h; cases h
    | some x =>
      rw [q] at h
      cases q2 : isiW d (t2 :: ts) with
      | none => rw [q2] at h; cases h
      | some y =>
        rw [q2] at h
        have e : (x || y) = k := Option.some.inj h
        obtain ⟨a, ta, ka⟩ := isi_one (K := K) (ht t (by simp)) q
        obtain ⟨b, tb, kb⟩ := isi_any (K := K) (fun s hs => ht s (List.mem_cons_of_mem _ hs)) q2 (by simp)
        rw [ta] at tb
        cases tb
        refine ⟨a, ta, kitAny_cons ka (fun z => ?_) fun z => ?_⟩
        · rw [← e, z, Bool.false_or]; exact kb
        · rw [← e, z]; rfl

/-! ### subscripts, slices -/
section
variable {X : Cx}
def rSubW (K : PySem.W.Frag) : R2 := fun x y H Q => ∃ ω S d e z, ω.H = H ∧ SR K ω S ∧ Rp K ω x d ∧ Rp K ω y e ∧ subW S d e = some z ∧ ∀ v, Rp K ω v z → Q v H
theorem atI_rps {K : PySem.W.Frag} {ω : Wd} {vs : List V} {ds : List W} {i : Int} {z : W} (r : Rps K ω vs ds) (h : atI ds i = some z) : ∃ v, atI vs i = some v ∧ Rp K ω v z := by
  unfold atI at h ⊢
  rw [r.length]
  cases q : ixN ds.length i with
  | none => rw [q] at h; cases h
  | some j =>
    rw [q] at h
    exact r.get h
theorem ix_sub : IxR X (rSubW X.K) := by
  intro value slice pins s σ H x y v u Q I rx ry h hs
  obtain ⟨ω, S, d, e, z, rfl, sr, hd, he, hz, q⟩ := h
  cases he with
  | int k =>
    by_cases hstr : ∃ t, d = .str t
    · obtain ⟨t, rfl⟩ := hstr
      cases hd
      have hz : (if t.length ≤ sizeLine then (atI t.cps.toList k).map (fun c => W.str ⟨#[c]⟩) else none) = some z := hz
      split at hz
      · rename_i le
        cases q2 : atI t.cps.toList k with
        | none => rw [q2] at hz; cases hz
        | some c =>
          rw [q2] at hz
          refine ix_seq value slice pins s σ ω.H _ _ v u Q I rx ry (.inr (.inr ⟨t, k, c, rfl, rfl, le, q2, q _ ?_⟩)) hs
          rw [← Option.some.inj hz]
          exact .str _
      · cases hz
    · have hz : (match itemsOf S d with | some xs => atI xs k | none => none) = some z := by
        cases d with
        | str t => exact absurd ⟨t, rfl⟩ hstr
        | _ => exact hz
      cases q0 : itemsOf S d with
      | none => rw [q0] at hz; cases hz
      | some ys =>
        rw [q0] at hz
        obtain ⟨p, vs, rfl, hq, hr⟩ := items_rd sr hd q0
        obtain ⟨w, hw, rw'⟩ := atI_rps hr hz
        rcases hq with hq | hq
        · exact ix_seq value slice pins s σ ω.H _ _ v u Q I rx ry (.inl ⟨p, vs, k, w, rfl, rfl, hq, hw, q _ rw'⟩) hs
        · exact ix_seq value slice pins s σ ω.H _ _ v u Q I rx ry (.inr (.inl ⟨p, vs, k, w, rfl, rfl, hq, hw, q _ rw'⟩)) hs
  | _ => exact nomatch hz
theorem cut_rps {K : PySem.W.Frag} {ω : Wd} {vs : List V} {ds : List W} {lo hi : Option Int} (r : Rps K ω vs ds) : Rps K ω (cutV vs lo hi) (cutG ds lo hi) := by
  unfold cutV cutG
  rw [r.length]
  exact (r.drop _).take _
def rSlcW (K : PySem.W.Frag) : V → Option Int → Option Int → Hp → VK → Prop := fun x lo hi H Q => ∃ ω S d z, ω.H = H ∧ SR K ω S ∧ Rp K ω x d ∧ slcW S d lo hi = some z ∧ ∀ v ω', Ext ω ω' → SR K ω' S → Rp K ω' v z → Q v ω'.H
theorem sl_slc : SlR X (rSlcW X.K) := by
  intro pins s σ H x v vl vu lo hi sl Q I rx hs p1 p2 h
  obtain ⟨ω, S, d, z, rfl, sr, hd, hz, q⟩ := h
  by_cases ht : ∃ ys, d = .tup ys
  · obtain ⟨ys, rfl⟩ := ht
    cases hd with
    | tup h1 h2 =>
      have hz : (if HT.sIx ys.length 0 lo = 0 ∧ HT.sIx ys.length ys.length hi = ys.length then none else some (W.tup (cutG ys lo hi))) = some z := hz
      split at hz
      · cases hz
      · rename_i nw
        have ez := Option.some.inj hz
        subst ez
        refine sl_tup pins s σ ω.H _ v vl vu lo hi sl Q I rx hs p1 p2 ⟨_, _, rfl, h1.sq, by rw [h2.length]; exact nw, fun p hp => ?_⟩
        exact q _ (ω.new p _) (.new_ hp) (sr.new_ hp) (.newT sr hp (cut_rps h2))
  · have hz : (listOf S d).map (fun xs => W.lst (cutG xs lo hi)) = some z := by
      cases d with
      | tup y => exact absurd ⟨y, rfl⟩ ht
      | _ => exact hz
    cases e : listOf S d with
    | none => rw [e] at hz; cases hz
    | some ys =>
      rw [e] at hz
      have ez := Option.some.inj hz
      subst ez
      obtain ⟨p, vs, rfl, hq, hr⟩ := list_rd sr hd e
      refine sl_list pins s σ ω.H _ v vl vu lo hi sl Q I rx hs p1 p2 ⟨p, vs, rfl, hq, fun l hl => ?_⟩
      exact q _ (ω.new l _) (.new_ hl) (sr.new_ hl) (.newLst sr hl (cut_rps hr))
end

/-! ### cells written -/
theorem join_some {S : Store} {n : Nat} {xs : List W} (h : (S[n]?).join = some xs) : S[n]? = some (some xs) := by
  cases q : S[n]? with
  | none => rw [q] at h; cases h
  | some c => rw [q] at h; exact congrArg some h
/-- the cell n is written -/
theorem SR.write {K : PySem.W.Frag} {ω : Wd} {S : Store} {n : Nat} {a : Addr} {ds es : List W} {us : List V} (sr : SR K ω S) (h : S[n]? = some (some ds)) (ha : ω.as[n]? = some a) (r : Rps K ω us es) :
    Ext ω (ω.new a (.lst us)) ∧ SR K (ω.new a (.lst us)) (S.set n (some es)) := by
  obtain ⟨b, vs, e1, e2, e3, e4⟩ := sr.live n ds h
  rw [ha] at e1
  cases e1
  have ext : Ext ω (ω.new a (.lst us)) := {
    keep := fun b x q hk => by
      show upd ω.H a _ b = _
      rw [upd_ne]
      · exact q
      · intro z
        subst z
        rcases hk with hk | hk
        · exact hk (List.mem_of_getElem? ha)
        · exact hk e3
    dom := fun b q => by
      have q : upd ω.H a (.lst us) b = none := q
      by_cases z : b = a
      · subst z; rw [upd_same] at q; cases q
      · rwa [upd_ne z] at q
    blk := fun _ q => .inl q
    unb := fun _ q => .inl q
    new := fun m b q e => by
      have e : ω.as[m]? = some b := e
      rw [List.getElem?_eq_none q] at e; cases e
    pre := fun _ _ q => q }
  refine ⟨ext, ?_, fun m fs q => ?_, fun m k fs gs b q1 q2 => ?_, fun b q => ?_, fun b hb => ?_⟩
  · show ω.as.length = (S.set n (some es)).length
    rw [List.length_set]; exact sr.len
  · by_cases hm : n = m
    · subst hm
      have hl : n < S.length := (List.getElem?_eq_some_iff.mp h).1
      rw [List.getElem?_set_self hl] at q
      have q := Option.some.inj (Option.some.inj q)
      subst q
      exact ⟨a, us, ha, upd_same, e3, r.mono ext⟩
    · rw [List.getElem?_set_ne hm] at q
      obtain ⟨b, vs', f1, f2, f3, f4⟩ := sr.live m fs q
      refine ⟨b, vs', f1, ?_, f3, f4.mono ext⟩
      show upd ω.H a _ b = _
      rw [upd_ne]
      · exact f2
      · intro z
        subst z
        exact hm (sr.inj n m ds fs b h q ha f1)
  · have old : ∀ {j : Nat} {gs : List W}, (S.set n (some es))[j]? = some (some gs) → ∃ hs, S[j]? = some (some hs) := fun {j gs} e => by
      by_cases hj : n = j
      · subst hj; exact ⟨ds, h⟩
      · rw [List.getElem?_set_ne hj] at e; exact ⟨gs, e⟩
    obtain ⟨f1, g1⟩ := old q1
    obtain ⟨f2, g2⟩ := old q2
    exact sr.inj m k f1 f2 b g1 g2
  · by_cases z : b = a
    · subst z; exact ⟨us, upd_same⟩
    · obtain ⟨vs', e⟩ := sr.tr b q
      exact ⟨vs', by show upd ω.H a _ b = _; rw [upd_ne z]; exact e⟩
  · show upd ω.H a _ b ≠ none
    by_cases z : b = a
    · subst z; rw [upd_same]; exact fun w => nomatch w
    · rw [upd_ne z]; exact sr.cel b hb
/-- the cell n let go: its list is data from now on -/
theorem SR.drop {K : PySem.W.Frag} {ω : Wd} {S : Store} {n : Nat} {a : Addr} {ds : List W} (sr : SR K ω S) (h : S[n]? = some (some ds)) (ha : ω.as[n]? = some a) :
    Ext ω (ω.rel a) ∧ SR K (ω.rel a) (S.set n none) ∧ Rp K (ω.rel a) (.ref a) (.lst ds) := by
  obtain ⟨b, vs, e1, e2, e3, e4⟩ := sr.live n ds h
  rw [ha] at e1
  cases e1
  have ext : Ext ω (ω.rel a) := {
    keep := fun _ _ q _ => q
    dom := fun _ q => q
    blk := fun _ q => .inl q.1
    unb := fun b q => by
      by_cases z : b = a
      · subst z; exact .inr (List.mem_of_getElem? ha)
      · exact .inl ⟨q, z⟩
    new := fun m b q e => by
      have e : ω.as[m]? = some b := e
      rw [List.getElem?_eq_none q] at e; cases e
    pre := fun _ _ q => q }
  refine ⟨ext, ⟨?_, fun m fs q => ?_, fun m k fs gs b q1 q2 => ?_, fun b q => sr.tr b q.1, sr.cel⟩, .lst ⟨e2, fun z => z.2 rfl⟩ e4.rel⟩
  · show ω.as.length = (S.set n none).length
    rw [List.length_set]; exact sr.len
  · by_cases hm : n = m
    · subst hm
      have hl : n < S.length := (List.getElem?_eq_some_iff.mp h).1
      rw [List.getElem?_set_self hl] at q
      cases q
    · rw [List.getElem?_set_ne hm] at q
      obtain ⟨b, vs', f1, f2, f3, f4⟩ := sr.live m fs q
      refine ⟨b, vs', f1, f2, ⟨f3, fun z => ?_⟩, f4.rel⟩
      subst z
      exact hm (sr.inj n m ds fs b h q ha f1)
  · have old : ∀ {j : Nat} {gs : List W}, (S.set n none)[j]? = some (some gs) → S[j]? = some (some gs) := fun {j gs} e => by
      by_cases hj : n = j
      · subst hj
        by_cases hl : n < S.length
        · rw [List.getElem?_set_self hl] at e; cases e
        · rw [List.getElem?_eq_none (by simpa using hl)] at e; cases e
      · rwa [List.getElem?_set_ne hj] at e
    exact sr.inj m k fs gs b (old q1) (old q2)
section
variable {K : PySem.W.Frag} {ω : Wd} {a : Addr}
def Wd.cell (ω : Wd) (a : Addr) : Wd := { ω with as := ω.as ++ [a] }
mutual
theorem Rp.more : ∀ {v : V} {d : W}, Rp K ω v d → Rp K (ω.cell a) v d
  | _, _, .non => .non
  | _, _, .bl b => .bl b
  | _, _, .int i => .int i
  | _, _, .str x => .str x
  | _, _, .tup h r => .tup h (Rps.more r)
  | _, _, .lst h r => .lst h (Rps.more r)
  | _, _, .ro h r => .ro h (Rps.more r)
  | _, _, .loc (n := n) h => .loc (by show (ω.as ++ [a])[n]? = _; rw [List.getElem?_append_left (List.getElem?_eq_some_iff.mp h).1]; exact h)
  | _, _, .edict h no => .edict h no
theorem Rps.more : ∀ {vs : List V} {ds : List W}, Rps K ω vs ds → Rps K (ω.cell a) vs ds
  | _, _, .nil => .nil
  | _, _, .cons h r => .cons (Rp.more h) (Rps.more r)
end
end
/-- a new list becomes a cell -/
theorem SR.thaw {K : PySem.W.Frag} {ω1 ω : Wd} {S : Store} {v : V} {ds : List W} (e : Ext ω1 ω) (sr : SR K ω S) (f : Fresh K ω1 ω v (.lst ds)) :
    ∃ ω', ω'.H = ω.H ∧ Ext ω1 ω' ∧ SR K ω' (S ++ [some ds]) ∧ Rp K ω' v (.loc S.length) := by
  obtain ⟨a, vs, ds', rfl, e0, hn, ho, ha, hh, r⟩ := f
  cases e0
  have last : (ω.as ++ [a])[ω.as.length]? = some a := by rw [List.getElem?_append_right (Nat.le_refl _)]; simp
  have slast : (S ++ [some ds])[S.length]? = some (some ds) := by rw [List.getElem?_append_right (Nat.le_refl _)]; simp
  have asl : ∀ {m : Nat} {b : Addr}, (ω.as ++ [a])[m]? = some b → ω.as[m]? = some b ∨ (m = ω.as.length ∧ b = a) := fun {m b} q => by
    by_cases hm : m < ω.as.length
    · rw [List.getElem?_append_left hm] at q; exact .inl q
    · have : m < (ω.as ++ [a]).length := (List.getElem?_eq_some_iff.mp q).1
      rw [List.length_append, List.length_singleton] at this
      have hm : m = ω.as.length := by omega
      subst hm
      rw [last] at q
      exact .inr ⟨rfl, (Option.some.inj q).symm⟩
  have sl : ∀ {m : Nat} {fs : List W}, (S ++ [some ds])[m]? = some (some fs) → S[m]? = some (some fs) ∨ (m = S.length ∧ fs = ds) := fun {m fs} q => by
    by_cases hm : m < S.length
    · rw [List.getElem?_append_left hm] at q; exact .inl q
    · have : m < (S ++ [some ds]).length := (List.getElem?_eq_some_iff.mp q).1
      rw [List.length_append, List.length_singleton] at this
      have hm : m = S.length := by omega
      subst hm
      rw [slast] at q
      exact .inr ⟨rfl, (Option.some.inj (Option.some.inj q)).symm⟩
  refine ⟨ω.cell a, rfl, ⟨e.keep, e.dom, e.blk, e.unb, fun n b hl q => ?_, fun n b q => ?_⟩, ⟨?_, fun m fs q => ?_, fun m k fs gs b q1 q2 q3 q4 => ?_, sr.tr, fun b hb => ?_⟩, .loc ?_⟩
  · rcases asl q with q | ⟨_, rfl⟩
    · exact e.new n b hl q
    · exact hn
  · have q2 := e.pre n b q
    show (ω.as ++ [a])[n]? = some b
    rw [List.getElem?_append_left (List.getElem?_eq_some_iff.mp q2).1]
    exact q2
  · show (ω.as ++ [a]).length = (S ++ [some ds]).length
    rw [List.length_append, List.length_append, sr.len]; rfl
  · rcases sl q with q | ⟨rfl, rfl⟩
    · obtain ⟨b, vs', f1, f2, f3, f4⟩ := sr.live m fs q
      refine ⟨b, vs', ?_, f2, f3, f4.more⟩
      show (ω.as ++ [a])[m]? = some b
      rw [List.getElem?_append_left (List.getElem?_eq_some_iff.mp f1).1]
      exact f1
    · exact ⟨a, vs, by rw [← sr.len]; exact last, hh, ho, r.more⟩
  · rcases sl q1 with q1 | ⟨rfl, rfl⟩
    · rcases sl q2 with q2 | ⟨rfl, rfl⟩
      · rcases asl q3 with q3 | ⟨z, _⟩
        · rcases asl q4 with q4 | ⟨z, _⟩
          · exact sr.inj m k fs gs b q1 q2 q3 q4
          · have := (List.getElem?_eq_some_iff.mp q2).1
            rw [sr.len] at z; omega
        · have := (List.getElem?_eq_some_iff.mp q1).1
          rw [sr.len] at z; omega
      · rw [← sr.len, show (ω.cell a).as = ω.as ++ [a] from rfl, last] at q4
        cases q4
        rcases asl q3 with q3 | ⟨z, _⟩
        · exact absurd (List.mem_of_getElem? q3) ha
        · have := (List.getElem?_eq_some_iff.mp q1).1
          rw [sr.len] at z; omega
    · rcases sl q2 with q2 | ⟨rfl, rfl⟩
      · rw [← sr.len, show (ω.cell a).as = ω.as ++ [a] from rfl, last] at q3
        cases q3
        rcases asl q4 with q4 | ⟨z, _⟩
        · exact absurd (List.mem_of_getElem? q4) ha
        · have := (List.getElem?_eq_some_iff.mp q2).1
          rw [sr.len] at z; omega
      · rfl
  · rcases List.mem_append.mp hb with hb | hb
    · exact sr.cel b hb
    · rw [List.mem_singleton] at hb
      subst hb
      show ω.H b ≠ none
      rw [hh]; exact fun z => nomatch z
  · rw [← sr.len]; exact last

/-! ### methods of cells, items stored -/
section
variable {X : Cx}
def mthId : Mth → String
  | .append => "list.append" | .extend => "list.extend" | .pop0 => "list.pop" | .pop1 => "list.pop" | .insert => "list.insert" | .clear => "list.clear" | .reverse => "list.reverse"
def rMth (K : PySem.W.Frag) (m : Mth) : V → List V → Hp → VK → Prop := fun x xs H Q => ∃ ω S d es z S', ω.H = H ∧ SR K ω S ∧ Rp K ω x d ∧ Rps K ω xs es ∧ methW S m d es = some (z, S') ∧ ∀ v ω', Ext ω ω' → SR K ω' S' → Rp K ω' v z → Q v ω'.H
theorem loc_at {K : PySem.W.Frag} {ω : Wd} {S : Store} {x : V} {n : Nat} {ds : List W} (sr : SR K ω S) (r : Rp K ω x (.loc n)) (h : (S[n]?).join = some ds) : ∃ a vs, x = .ref a ∧ ω.as[n]? = some a ∧ ω.H a = some (.lst vs) ∧ Rps K ω vs ds ∧ S[n]? = some (some ds) := by
  cases r with
  | loc h1 =>
    have h2 := join_some h
    obtain ⟨b, vs, e1, e2, _, e4⟩ := sr.live n ds h2
    rw [h1] at e1
    cases e1
    exact ⟨_, vs, rfl, h1, e2, e4, h2⟩
theorem mt_meth (m : Mth) : MtR X (mthId m) (rMth X.K m) := by
  intro pins s σ H x xs v us Q I rx r h
  obtain ⟨ω, S, d, es, z, S', rfl, sr, hd, he, hz, q⟩ := h
  cases m with
  | append =>
    match d, es, hd, he, hz with
    | .loc n, [y], hd, he, hz =>
      have hz : (match (S[n]?).join with | some xs => if xs.length < sizeLine then some (W.non, S.set n (some (xs ++ [y]))) else none | none => none) = some (z, S') := hz
      cases e : (S[n]?).join with
      | none => rw [e] at hz; cases hz
      | some ds =>
        rw [e] at hz
        have hz : (if ds.length < sizeLine then some (W.non, S.set n (some (ds ++ [y]))) else none) = some (z, S') := hz
        split at hz
        · rename_i le
          have ez := Option.some.inj hz
          cases ez
          obtain ⟨a, vs, rfl, h1, h2, h3, h4⟩ := loc_at sr hd e
          obtain ⟨u, rfl, hu⟩ := one_rps he
          obtain ⟨ex, sr'⟩ := sr.write h4 h1 (h3.append (.one hu))
          exact mt_append pins s σ ω.H _ _ v us Q I rx r ⟨a, vs, u, rfl, rfl, h2, by rw [h3.length]; exact le, q _ _ ex sr' .non⟩
        · cases hz
  | extend =>
    match d, es, hd, he, hz with
    | .loc n, [.lst ys], hd, he, hz =>
      have hz : (match (S[n]?).join with | some xs => if xs.length + ys.length ≤ sizeLine then some (W.non, S.set n (some (xs ++ ys))) else none | none => none) = some (z, S') := hz
      cases e : (S[n]?).join with
      | none => rw [e] at hz; cases hz
      | some ds =>
        rw [e] at hz
        have hz : (if ds.length + ys.length ≤ sizeLine then some (W.non, S.set n (some (ds ++ ys))) else none) = some (z, S') := hz
        split at hz
        · rename_i le
          have ez := Option.some.inj hz
          cases ez
          obtain ⟨a, vs, rfl, h1, h2, h3, h4⟩ := loc_at sr hd e
          obtain ⟨u, rfl, hu⟩ := one_rps he
          cases hu with
          | lst k1 k2 =>
            obtain ⟨ex, sr'⟩ := sr.write h4 h1 (h3.append k2)
            exact mt_extend pins s σ ω.H _ _ v us Q I rx r ⟨a, _, vs, _, rfl, rfl, h2, k1.1, by rw [h3.length, k2.length]; exact le, q _ _ ex sr' .non⟩
        · cases hz
  | pop0 =>
    match d, es, hd, he, hz with
    | .loc n, [], hd, he, hz =>
      have hz : (match (S[n]?).join with | some xs => (match xs[xs.length - 1]? with | some y => some (y, S.set n (some xs.dropLast)) | none => none) | none => none) = some (z, S') := hz
      cases e : (S[n]?).join with
      | none => rw [e] at hz; cases hz
      | some ds =>
        rw [e] at hz
        have hz : (match ds[ds.length - 1]? with | some y => some (y, S.set n (some ds.dropLast)) | none => none) = some (z, S') := hz
        cases e2 : ds[ds.length - 1]? with
        | none => rw [e2] at hz; cases hz
        | some y =>
          rw [e2] at hz
          have ez := Option.some.inj hz
          cases ez
          obtain ⟨a, vs, rfl, h1, h2, h3, h4⟩ := loc_at sr hd e
          cases he
          obtain ⟨u, hu, ru⟩ := h3.get e2
          have hdl : Rps X.K ω vs.dropLast ds.dropLast := by
            rw [List.dropLast_eq_take, List.dropLast_eq_take, h3.length]
            exact h3.take _
          obtain ⟨ex, sr'⟩ := sr.write h4 h1 hdl
          exact mt_pop pins s σ ω.H _ _ v us Q I rx r ⟨a, vs, u, rfl, rfl, h2, by rw [h3.length]; exact hu, q _ _ ex sr' (ru.mono ex)⟩
  | pop1 =>
    match d, es, hd, he, hz with
    | .loc n, [.int i], hd, he, hz =>
      have hz : (match (S[n]?).join with
        | some xs => (match ixN xs.length i with
          | some k => if -(2 ^ 63) ≤ i ∧ i < 2 ^ 63 then (match xs[k]? with | some y => some (y, S.set n (some (xs.eraseIdx k))) | none => none) else none
          | none => none)
        | none => none) = some (z, S') := hz
      cases e : (S[n]?).join with
      | none => rw [e] at hz; cases hz
      | some ds =>
        rw [e] at hz
        have hz : (match ixN ds.length i with
          | some k => if -(2 ^ 63) ≤ i ∧ i < 2 ^ 63 then (match ds[k]? with | some y => some (y, S.set n (some (ds.eraseIdx k))) | none => none) else none
          | none => none) = some (z, S') := hz
        cases e1 : ixN ds.length i with
        | none => rw [e1] at hz; cases hz
        | some k =>
          rw [e1] at hz
          have hz : (if -(2 ^ 63) ≤ i ∧ i < 2 ^ 63 then (match ds[k]? with | some y => some (y, S.set n (some (ds.eraseIdx k))) | none => none) else none) = some (z, S') := hz
          split at hz
          · rename_i le
            cases e2 : ds[k]? with
            | none => rw [e2] at hz; cases hz
            | some y =>
              rw [e2] at hz
              have ez := Option.some.inj hz
              cases ez
              obtain ⟨a, vs, rfl, h1, h2, h3, h4⟩ := loc_at sr hd e
              obtain ⟨w, rfl, hw⟩ := one_rps he
              cases hw
              obtain ⟨u, hu, ru⟩ := h3.get e2
              obtain ⟨ex, sr'⟩ := sr.write h4 h1 (h3.erase k)
              exact mt_popAt pins s σ ω.H _ _ v us Q I rx r ⟨a, vs, i, k, u, rfl, rfl, h2, le.1, le.2, by rw [h3.length]; exact (ixN_seq e1).1, hu, q _ _ ex sr' (ru.mono ex)⟩
          · cases hz
  | insert => exact nomatch hz
  | clear =>
    match d, es, hd, he, hz with
    | .loc n, [], hd, he, hz =>
      have hz : (match (S[n]?).join with | some _ => some (W.non, S.set n (some [])) | none => none) = some (z, S') := hz
      cases e : (S[n]?).join with
      | none => rw [e] at hz; cases hz
      | some ds =>
        rw [e] at hz
        have ez := Option.some.inj hz
        cases ez
        obtain ⟨a, vs, rfl, h1, h2, h3, h4⟩ := loc_at sr hd e
        cases he
        obtain ⟨ex, sr'⟩ := sr.write h4 h1 .nil
        exact mt_clear pins s σ ω.H _ _ v us Q I rx r ⟨a, vs, rfl, rfl, h2, q _ _ ex sr' .non⟩
  | reverse =>
    match d, es, hd, he, hz with
    | .loc n, [], hd, he, hz =>
      have hz : (match (S[n]?).join with | some xs => some (W.non, S.set n (some xs.reverse)) | none => none) = some (z, S') := hz
      cases e : (S[n]?).join with
      | none => rw [e] at hz; cases hz
      | some ds =>
        rw [e] at hz
        have ez := Option.some.inj hz
        cases ez
        obtain ⟨a, vs, rfl, h1, h2, h3, h4⟩ := loc_at sr hd e
        cases he
        obtain ⟨ex, sr'⟩ := sr.write h4 h1 h3.reverse
        exact mt_reverse pins s σ ω.H _ _ v us Q I rx r ⟨a, vs, rfl, rfl, h2, q _ _ ex sr' .non⟩
def rSetW (K : PySem.W.Frag) : V → V → V → Hp → (Hp → Prop) → Prop := fun o i v H Q => ∃ ω S do_ di dv S', ω.H = H ∧ SR K ω S ∧ Rp K ω o do_ ∧ Rp K ω i di ∧ Rp K ω v dv ∧ setW S do_ di dv = some S' ∧ ∀ ω', Ext ω ω' → SR K ω' S' → Q ω'.H
theorem set_w : PSet X (rSetW X.K) := by
  intro pins s σ H o i v ov iv u Q I ro ri rv h
  obtain ⟨ω, S, do_, di, dv, S', rfl, sr, hd, hi, hv, hz, q⟩ := h
  match do_, di, hd, hi, hz with
  | .loc n, .int k, hd, hi, hz =>
    have hz : (match (S[n]?).join with
      | some xs => (match ixN xs.length k with | some j => some (S.set n (some (xs.set j dv))) | none => none)
      | none => none) = some S' := hz
    cases e : (S[n]?).join with
    | none => rw [e] at hz; cases hz
    | some ds =>
      rw [e] at hz
      have hz : (match ixN ds.length k with | some j => some (S.set n (some (ds.set j dv))) | none => none) = some S' := hz
      cases e1 : ixN ds.length k with
      | none => rw [e1] at hz; cases hz
      | some j =>
        rw [e1] at hz
        have ez := Option.some.inj hz
        subst ez
        obtain ⟨a, vs, rfl, h1, h2, h3, h4⟩ := loc_at sr hd e
        cases hi
        obtain ⟨ex, sr'⟩ := sr.write h4 h1 (h3.set hv j)
        exact set_list pins s σ ω.H _ _ _ ov iv u Q I ro ri rv ⟨a, vs, k, j, rfl, rfl, h2, by rw [h3.length]; exact e1, q _ ex sr'⟩
end
end Rf

namespace Rf
open PySem PySem.Spec L2

/-! ### lists and tuples as sources -/
def SqB (K : PySem.W.Frag) (H : Hp) (t : Bool) (a : Addr) (xs : List V) : Prop := if t = true then SqT K H a xs else SqL K H a xs
def SeqAtH (t : Bool) (h : Heap) (a : Addr) (its : Array Value) : Prop := if t = true then h.IsTuple a its else h.IsList a its
def IterAt (t : Bool) (h : Heap) (it a : Addr) (i : Nat) : Prop := if t = true then h.IsTupleIter it a i else h.IsListIter it a i
def iterO (t : Bool) (a : Addr) : Obj := { cls := .type (if t = true then "tuple_iterator" else "list_iterator"), data := .fields #[.ref a, .int 0 0] }
section
variable {X : Cx} {pins : List (Addr × Obj)} {σ : L2.St} {H : Hp} {s : Shared}
theorem seq_its {t : Bool} {a : Addr} {xs : List V} (I : Inv X pins σ H s) (h : SqB X.K H t a xs) : ∃ its : List Value, Vals xs its ∧ SeqAtH t s.heap a its.toArray := by
  cases t with
  | true => obtain ⟨its, r, p, _⟩ := I.tuple (show SqT X.K H a xs from h); exact ⟨its, r, p⟩
  | false => obtain ⟨its, r, p, _⟩ := I.list (show SqL X.K H a xs from h); exact ⟨its, r, p.isList⟩
theorem seq_inj {t : Bool} {a : Addr} {xs ys : List V} (I : Inv X pins σ H s) (h : SqB X.K H t a xs) (h' : SqB X.K H t a ys) : xs = ys := by
  cases t with
  | true => exact I.tuple_inj (show SqT X.K H a xs from h) (show SqT X.K H a ys from h')
  | false => exact I.list_inj (show SqL X.K H a xs from h) (show SqL X.K H a ys from h')
end
theorem begins_seq (t : Bool) (a : Addr) (its : Array Value) : Begins (.ref a) (iterO t a) (fun h => SeqAtH t h a its) := by
  cases t with
  | true => exact begins_tuple a its
  | false => exact begins_list a its
theorem iter_new {t : Bool} {h : Heap} {it a : Addr} (e : h.get? it = some (iterO t a)) : IterAt t h it a 0 := by
  cases t with
  | true => exact ⟨_, e, rfl, rfl⟩
  | false => exact ⟨_, e, rfl, rfl⟩
theorem draws_seq {prog : Program} {w : World} {A : Around} (hh : A.handled = none) (t : Bool) (it a : Addr) (hne : a ≠ it) (its : Array Value) :
    Draws prog w A it [it, a] its.size (fun i v => its[i]? = some v) (fun i h => IterAt t h it a i ∧ SeqAtH t h a its) := by
  cases t with
  | true => exact Draws.tuple hh it a hne its
  | false => exact Draws.list hh it a hne its
theorem IterAt.at {t : Bool} {h h' : Heap} {it a : Addr} {i : Nat} (x : IterAt t h it a i) (k : ∀ o, h.get? it = some o → h'.get? it = some o) : IterAt t h' it a i := by
  cases t with
  | true => exact Heap.IsTupleIter.at (show h.IsTupleIter it a i from x) k
  | false => exact Heap.IsListIter.at (show h.IsListIter it a i from x) k
theorem IterAt.obj {t : Bool} {h : Heap} {it a : Addr} {i : Nat} (x : IterAt t h it a i) : ∃ o, h.get? it = some o ∧ ∀ v, o.data ≠ .cell v := by
  cases t with
  | true =>
    obtain ⟨o, ho, hc, hd⟩ := (show h.IsTupleIter it a i from x)
    exact ⟨o, ho, fun v q => by rw [hd] at q; cases q⟩
  | false =>
    obtain ⟨o, ho, hc, hd⟩ := (show h.IsListIter it a i from x)
    exact ⟨o, ho, fun v q => by rw [hd] at q; cases q⟩
theorem SeqAtH.lt {t : Bool} {h : Heap} {a : Addr} {its : Array Value} (x : SeqAtH t h a its) : a < h.objs.size := by
  cases t with
  | true =>
    obtain ⟨o, ho, _⟩ := (show h.IsTuple a its from x)
    exact Heap.lt_size ho
  | false =>
    obtain ⟨o, ho, _⟩ := (show h.IsList a its from x)
    exact Heap.lt_size ho

/-! ### iterators that hand out new tuples -/
/-- what a turn leans on: the walk as the library tells it, built at each turn of what stands there -/
structure Fac (X : Cx) (s : Shared) (H : Hp) (tg : Expr) (J : It) (it : Addr) (fp wr : List Addr) (tn : Nat → Heap → Prop) (i n : Nat) : Prop where
  ex : ∃ (fq : List Addr) (Y : Nat → Heap → Value → Heap → Prop) (St : Nat → Heap → Prop), GoesN X.prog X.w X.A tg it fq wr n Y St ∧ St i s.heap ∧ (∀ j h, St j h → tn j h) ∧
    ∀ v h', i < n → Y i s.heap v h' → ∃ T xs us, v = .ref T ∧ s.heap.objs.size ≤ T ∧ Vals xs us ∧ h'.IsTuple T us.toArray ∧ xs.length ≤ sizeLine ∧ (H T = none → J.yld i H (.ref T) (upd H T (.tup xs)))
theorem turn_of {P : Program} {w : World} {K : PySem.W.Frag} {tg : Expr} {J : It} {it : Addr} {fp wr : List Addr} {tn : Nat → Heap → Prop} (mem : it ∈ fp) (sub : ∀ b ∈ wr, b ∈ fp)
    (obj : ∀ i h, tn i h → ∀ b ∈ fp, ∃ o, h.get? b = some o ∧ ∀ v, o.data ≠ .cell v)
    (keep : ∀ i h h', tn i h → (∀ b ∈ fp, ∀ o, h.get? b = some o → h'.get? b = some o) → tn i h')
    (self : ∀ (A : Around) (i : Nat) (s : Shared) (Q : Value → Shared → Prop) (E : Value → Shared → Prop), tn i s.heap → Q (.ref it) s → wpAny (model P w) A (pyIter (.ref it)) Q E s)
    (go : ∀ (X : Cx), X.prog = P → X.w = w → X.K = K → X.calm = true → ∀ (i : Nat) (pins : List (Addr × Obj)) (s : Shared) (σ : L2.St) (H : Hp), Inv X pins σ H s → (∀ b ∈ fp, FpOk X pins H b) → tn i s.heap → J.go i H → ∃ n, i < n ∧ Fac X s H tg J it fp wr tn i n)
    (stop : ∀ (X : Cx), X.prog = P → X.w = w → X.K = K → X.calm = true → ∀ (i : Nat) (pins : List (Addr × Obj)) (s : Shared) (σ : L2.St) (H : Hp), Inv X pins σ H s → (∀ b ∈ fp, FpOk X pins H b) → tn i s.heap → J.stop i H → Fac X s H tg J it fp wr tn i i) :
    Turn P w K tg J fp it tn where
  mem := mem
  obj := obj
  keep := keep
  self := self
  item := by
    intro X hP hw hK hc i pins s σ H E I hf st hg
    obtain ⟨n, hi, ⟨fq, Y, St, W, hst, htn, hy⟩⟩ := go X hP hw hK hc i pins s σ H I hf st hg
    subst hP hw hK
    have hlt : ∀ b ∈ fp, b < s.heap.objs.size := fun b hb => by
      obtain ⟨o, e, _⟩ := obj i s.heap st b hb
      exact Heap.lt_size e
    have z := W.goes i s (fun v s2 => ∃ x H', Inv X pins σ H' s2 ∧ RelV x v ∧ J.yld i H x H' ∧ tn (i + 1) s2.heap ∧ ∀ b ∈ fp, H' b = none) E hi hst (fun v h' tk hY hS hk htk => by
      obtain ⟨T, xs, us, rfl, hT, rv, hu, hz, hJ⟩ := hy v h' hi hY
      have hn : H T = none := I.hok.fresh hT
      have I1 : Inv X pins σ (upd H T (.tup xs)) { s with heap := h', toks := tk } := I.turnedNew (ch := fp) (fun b o hb e => hk b o (fun q => hb (sub b q)) e) hf hT ⟨hz, us, rv, hu⟩
      refine ⟨.ref T, upd H T (.tup xs), I1, rfl, hJ hn, htn _ _ hS, fun b hb => ?_⟩
      rw [upd_ne (Nat.ne_of_lt (Nat.lt_of_lt_of_le (hlt b hb) hT))]
      exact (hf b hb).1)
    exact wpAny_mono z (fun r s1 ⟨v, e, h⟩ => ⟨v, e, h⟩) fun _ _ h => h
  done := by
    intro X hP hw hK hc i pins s σ H E I hf st hg
    obtain ⟨fq, Y, St, W, hst, htn, hy⟩ := stop X hP hw hK hc i pins s σ H I hf st hg
    subst hP hw hK
    exact W.stops s (fun s1 => Inv X pins σ H s1) E hst fun h' tk hk _ => I.turnedL (ch := fp) (fun b o hb e => hk b o (fun q => hb (sub b q)) e) hf

/-- zip of two lists or tuples -/
def Jz2 (K : PySem.W.Frag) (t1 : Bool) (a1 : Addr) (t2 : Bool) (a2 : Addr) : It :=
  ⟨fun i H => ∃ (xs ys : List V) (x y : V), SqB K H t1 a1 xs ∧ SqB K H t2 a2 ys ∧ xs[i]? = some x ∧ ys[i]? = some y,
    fun i H v H' => ∃ T x y, v = .ref T ∧ H T = none ∧ H' = upd H T (.tup [x, y]) ∧ (∀ xs, SqB K H t1 a1 xs → xs[i]? = some x) ∧ ∀ ys, SqB K H t2 a2 ys → ys[i]? = some y,
    fun i H => ∃ xs ys : List V, SqB K H t1 a1 xs ∧ SqB K H t2 a2 ys ∧ i = min xs.length ys.length⟩
structure Ap2 (z TI TO i1 i2 : Addr) : Prop where
  TIz : TI ≠ z
  TOz : TO ≠ z
  TITO : TI ≠ TO
  TIi1 : TI ≠ i1
  TIi2 : TI ≠ i2
  zi1 : z ≠ i1
  zi2 : z ≠ i2
  Ti1 : TO ≠ i1
  Ti2 : TO ≠ i2
  i12 : i1 ≠ i2
theorem fp_base {X : Cx} {pins : List (Addr × Obj)} {σ : L2.St} {H : Hp} {s : Shared} {a b : Addr} {o : Obj} (I : Inv X pins σ H s) (h : X.K.lookup a = some o) (f : FpOk X pins H b) : a ≠ b := by
  rintro rfl
  have e := I.mod.kin a o h
  rcases f.2.2.2.1 with z | z
  · exact I.ok.noex a o e z
  · exact absurd (Nat.lt_of_lt_of_le (Heap.lt_size e) (Nat.le_trans I.ok.bsz z)) (Nat.lt_irrefl _)
theorem seq_ne {X : Cx} {pins : List (Addr × Obj)} {σ : L2.St} {H : Hp} {s : Shared} {t : Bool} {a b : Addr} {xs : List V} (I : Inv X pins σ H s) (h : SqB X.K H t a xs) (f : FpOk X pins H b) : a ≠ b := by
  cases t with
  | true =>
    rcases (show SqT X.K H a xs from h) with (h | ⟨o, h⟩) | ⟨o, its, n, h, _⟩
    · exact ne_of_none h f.1
    · exact ne_of_none h f.1
    · exact fp_base I h f
  | false =>
    rcases (show SqL X.K H a xs from h) with (h | ⟨o, h⟩) | ⟨o, its, n, h, _⟩
    · exact ne_of_none h f.1
    · exact ne_of_none h f.1
    · exact fp_base I h f
theorem in1_hd {X : Cx} {pins : List (Addr × Obj)} {σ : L2.St} {H : Hp} {s : Shared} (I : Inv X pins σ H s) (hc : X.calm = true) : X.A.in1.handled = none := I.ok.hd hc
theorem vals_at {xs : List V} {its : List Value} {i : Nat} {x : V} {u : Value} (r : Vals xs its) (h : xs[i]? = some x) (h' : its.toArray[i]? = some u) : RelV x u := by
  obtain ⟨w, hw, rw'⟩ := r.get h
  rw [show its.toArray[i]? = its[i]? by simp, hw] at h'
  cases h'
  exact rw'
theorem turn_zip2 {P : Program} {w : World} {K : PySem.W.Frag} {elts : List Expr} {kk : Nat} {tpos : Pos} {t1 t2 : Bool} {a1 a2 z TI TO i1 i2 : Addr} (D : Ap2 z TI TO i1 i2) :
    Turn P w K (.Tuple elts kk tpos) (Jz2 K t1 a1 t2 a2) [z, TI, TO, i1, i2] z (fun i h => IsZip h z TI TO .none ∧ IsTupOf2 h TI (.ref i1) (.ref i2) ∧ (∃ x y, IsTupOf2 h TO x y) ∧ IterAt t1 h i1 a1 i ∧ IterAt t2 h i2 a2 i) := by
  have sep : ∀ {X : Cx} {pins : List (Addr × Obj)} {σ : L2.St} {H : Hp} {s : Shared} {xs ys : List V}, Inv X pins σ H s → (∀ b ∈ [z, TI, TO, i1, i2], FpOk X pins H b) → SqB X.K H t1 a1 xs → SqB X.K H t2 a2 ys → ZipSep2 z TI TO i1 i2 [i1, a1] [i2, a2] := fun {X pins σ H s xs ys} I hf h1 h2 => by
    have q1 : ∀ b ∈ [z, TI, TO, i1, i2], a1 ≠ b := fun b hb => seq_ne I h1 (hf b hb)
    have q2 : ∀ b ∈ [z, TI, TO, i1, i2], a2 ≠ b := fun b hb => seq_ne I h2 (hf b hb)
    have n1 := q1 z (by simp)
    have n2 := q1 TO (by simp)
    have n3 := q1 i2 (by simp)
    have m1 := q2 z (by simp)
    have m2 := q2 TO (by simp)
    have m3 := q2 i1 (by simp)
    exact { TIz := D.TIz, TOz := D.TOz, TITO := D.TITO, TIi1 := D.TIi1, mem1 := by simp, zf1 := by simp [D.zi1, n1.symm], Tf1 := by simp [D.Ti1, n2.symm], TIi2 := D.TIi2, mem2 := by simp, zf2 := by simp [D.zi2, m1.symm], Tf2 := by simp [D.Ti2, m2.symm], sep1_2 := by simp [D.i12, m3.symm], sep2_1 := by simp [D.i12.symm, n3.symm] }
  have fac : ∀ {X : Cx}, X.prog = P → X.w = w → X.K = K → X.calm = true → ∀ {i : Nat} {pins : List (Addr × Obj)} {s : Shared} {σ : L2.St} {H : Hp} {xs ys : List V}, Inv X pins σ H s → (∀ b ∈ [z, TI, TO, i1, i2], FpOk X pins H b) →
      (IsZip s.heap z TI TO .none ∧ IsTupOf2 s.heap TI (.ref i1) (.ref i2) ∧ (∃ x y, IsTupOf2 s.heap TO x y) ∧ IterAt t1 s.heap i1 a1 i ∧ IterAt t2 s.heap i2 a2 i) → SqB K H t1 a1 xs → SqB K H t2 a2 ys →
      Fac X s H (.Tuple elts kk tpos) (Jz2 K t1 a1 t2 a2) z [z, TI, TO, i1, i2] [z, TO, i1, i2] (fun i h => IsZip h z TI TO .none ∧ IsTupOf2 h TI (.ref i1) (.ref i2) ∧ (∃ x y, IsTupOf2 h TO x y) ∧ IterAt t1 h i1 a1 i ∧ IterAt t2 h i2 a2 i) i (min xs.length ys.length) := fun {X} hP hw hK hc {i pins s σ H xs ys} I hf st h1 h2 => by
    subst hP hw hK
    obtain ⟨its, rv, q1⟩ := seq_its I h1
    obtain ⟨its2, rv2, q2⟩ := seq_its I h2
    have S := sep I hf h1 h2
    have n1 : a1 ≠ i1 := seq_ne I h1 (hf i1 (by simp))
    have n2 : a2 ≠ i2 := seq_ne I h2 (hf i2 (by simp))
    have W := GoesN.zip2 (elts := elts) (x1 := kk) (pos := tpos) S (draws_seq (prog := X.prog) (w := X.w) (in1_hd I hc) t1 i1 a1 n1 its.toArray) (draws_seq (prog := X.prog) (w := X.w) (in1_hd I hc) t2 i2 a2 n2 its2.toArray)
    have e1 : its.toArray.size = xs.length := by simp [rv.length]
    have e2 : its2.toArray.size = ys.length := by simp [rv2.length]
    rw [e1, e2] at W
    refine ⟨_, _, _, W, ⟨st.1, st.2.1, st.2.2.1, ⟨st.2.2.2.1, q1⟩, ⟨st.2.2.2.2, q2⟩⟩, fun j h q => ⟨q.1, q.2.1, q.2.2.1, q.2.2.2.1.1, q.2.2.2.2.1⟩, fun v h' hi hy => ?_⟩
    obtain ⟨T, u1, u2, rfl, hT, p1, p2, hu⟩ := hy
    have l1 : i < xs.length := by omega
    have l2 : i < ys.length := by omega
    have g1 : xs[i]? = some xs[i] := List.getElem?_eq_getElem l1
    have g2 : ys[i]? = some ys[i] := List.getElem?_eq_getElem l2
    refine ⟨T, [xs[i], ys[i]], [u1, u2], rfl, hT, .cons (vals_at rv g1 p1) (.cons (vals_at rv2 g2 p2) .nil), hu, by show 2 ≤ sizeLine; decide, fun hn => ⟨T, _, _, rfl, hn, rfl, fun l hl => ?_, fun l hl => ?_⟩⟩
    · rw [seq_inj I hl h1]; exact g1
    · rw [seq_inj I hl h2]; exact g2
  refine turn_of (wr := [z, TO, i1, i2]) (by simp) (fun b hb => ?_) (fun i h st c hc => ?_) (fun i h h' st k => ?_) (fun A i s Q E st h => wpAny_pyIter_zip st.1 h) (fun X hP hw hK hc i pins s σ H I hf st hg => ?_) (fun X hP hw hK hc i pins s σ H I hf st hg => ?_)
  · simp at hb ⊢; rcases hb with rfl | rfl | rfl | rfl <;> simp
  · obtain ⟨hz, hTI, ⟨x, y, hTO⟩, h1, h2⟩ := st
    have e' : c = z ∨ c = TI ∨ c = TO ∨ c = i1 ∨ c = i2 := by simpa using hc
    rcases e' with q | q | q | q | q
    · rw [q]; exact ⟨_, hz, fun v q => nomatch q⟩
    · rw [q]; exact ⟨_, hTI, fun v q => nomatch q⟩
    · rw [q]; exact ⟨_, hTO, fun v q => nomatch q⟩
    · rw [q]; exact h1.obj
    · rw [q]; exact h2.obj
  · obtain ⟨hz, hTI, ⟨x, y, hTO⟩, h1, h2⟩ := st
    exact ⟨k z (by simp) _ hz, k TI (by simp) _ hTI, ⟨x, y, k TO (by simp) _ hTO⟩, h1.at fun o q => k i1 (by simp) o q, h2.at fun o q => k i2 (by simp) o q⟩
  · obtain ⟨xs, ys, x, y, h1, h2, g1, g2⟩ := hg
    have l1 := (List.getElem?_eq_some_iff.mp g1).1
    have l2 := (List.getElem?_eq_some_iff.mp g2).1
    exact ⟨min xs.length ys.length, by omega, fac hP hw hK hc I hf st h1 h2⟩
  · obtain ⟨xs, ys, h1, h2, e⟩ := hg
    have q := fac hP hw hK hc I hf st h1 h2
    rw [← e] at q
    exact q
/-- zip of three lists or tuples -/
def Jz3 (K : PySem.W.Frag) (t1 : Bool) (a1 : Addr) (t2 : Bool) (a2 : Addr) (t3 : Bool) (a3 : Addr) : It :=
  ⟨fun i H => ∃ (xs ys zs : List V) (x y z : V), SqB K H t1 a1 xs ∧ SqB K H t2 a2 ys ∧ SqB K H t3 a3 zs ∧ xs[i]? = some x ∧ ys[i]? = some y ∧ zs[i]? = some z,
    fun i H v H' => ∃ T x y z, v = .ref T ∧ H T = none ∧ H' = upd H T (.tup [x, y, z]) ∧ (∀ xs, SqB K H t1 a1 xs → xs[i]? = some x) ∧ (∀ ys, SqB K H t2 a2 ys → ys[i]? = some y) ∧ ∀ zs, SqB K H t3 a3 zs → zs[i]? = some z,
    fun i H => ∃ xs ys zs : List V, SqB K H t1 a1 xs ∧ SqB K H t2 a2 ys ∧ SqB K H t3 a3 zs ∧ i = min (min xs.length ys.length) zs.length⟩
structure Ap3 (z TI TO i1 i2 i3 : Addr) : Prop where
  TIz : TI ≠ z
  TOz : TO ≠ z
  TITO : TI ≠ TO
  TIi1 : TI ≠ i1
  TIi2 : TI ≠ i2
  TIi3 : TI ≠ i3
  zi1 : z ≠ i1
  zi2 : z ≠ i2
  zi3 : z ≠ i3
  Ti1 : TO ≠ i1
  Ti2 : TO ≠ i2
  Ti3 : TO ≠ i3
  i12 : i1 ≠ i2
  i13 : i1 ≠ i3
  i23 : i2 ≠ i3
theorem turn_zip3 {P : Program} {w : World} {K : PySem.W.Frag} {elts : List Expr} {kk : Nat} {tpos : Pos} {t1 t2 t3 : Bool} {a1 a2 a3 z TI TO i1 i2 i3 : Addr} (D : Ap3 z TI TO i1 i2 i3) :
    Turn P w K (.Tuple elts kk tpos) (Jz3 K t1 a1 t2 a2 t3 a3) [z, TI, TO, i1, i2, i3] z (fun i h => IsZip h z TI TO .none ∧ IsTupOf3 h TI (.ref i1) (.ref i2) (.ref i3) ∧ (∃ x y v, IsTupOf3 h TO x y v) ∧ IterAt t1 h i1 a1 i ∧ IterAt t2 h i2 a2 i ∧ IterAt t3 h i3 a3 i) := by
  have sep : ∀ {X : Cx} {pins : List (Addr × Obj)} {σ : L2.St} {H : Hp} {s : Shared} {xs ys zs : List V}, Inv X pins σ H s → (∀ b ∈ [z, TI, TO, i1, i2, i3], FpOk X pins H b) → SqB X.K H t1 a1 xs → SqB X.K H t2 a2 ys → SqB X.K H t3 a3 zs → ZipSep3 z TI TO i1 i2 i3 [i1, a1] [i2, a2] [i3, a3] := fun {X pins σ H s xs ys zs} I hf h1 h2 h3 => by
    have q1 : ∀ b ∈ [z, TI, TO, i1, i2, i3], a1 ≠ b := fun b hb => seq_ne I h1 (hf b hb)
    have q2 : ∀ b ∈ [z, TI, TO, i1, i2, i3], a2 ≠ b := fun b hb => seq_ne I h2 (hf b hb)
    have q3 : ∀ b ∈ [z, TI, TO, i1, i2, i3], a3 ≠ b := fun b hb => seq_ne I h3 (hf b hb)
    have n1 := q1 z (by simp)
    have n2 := q1 TO (by simp)
    have n3 := q1 i2 (by simp)
    have n4 := q1 i3 (by simp)
    have m1 := q2 z (by simp)
    have m2 := q2 TO (by simp)
    have m3 := q2 i1 (by simp)
    have m4 := q2 i3 (by simp)
    have k1 := q3 z (by simp)
    have k2 := q3 TO (by simp)
    have k3 := q3 i1 (by simp)
    have k4 := q3 i2 (by simp)
    exact { TIz := D.TIz, TOz := D.TOz, TITO := D.TITO, TIi1 := D.TIi1, mem1 := by simp, zf1 := by simp [D.zi1, n1.symm], Tf1 := by simp [D.Ti1, n2.symm], TIi2 := D.TIi2, mem2 := by simp, zf2 := by simp [D.zi2, m1.symm], Tf2 := by simp [D.Ti2, m2.symm], TIi3 := D.TIi3, mem3 := by simp, zf3 := by simp [D.zi3, k1.symm], Tf3 := by simp [D.Ti3, k2.symm], sep1_2 := by simp [D.i12, m3.symm], sep1_3 := by simp [D.i13, k3.symm], sep2_1 := by simp [D.i12.symm, n3.symm], sep2_3 := by simp [D.i23, k4.symm], sep3_1 := by simp [D.i13.symm, n4.symm], sep3_2 := by simp [D.i23.symm, m4.symm] }
  have fac : ∀ {X : Cx}, X.prog = P → X.w = w → X.K = K → X.calm = true → ∀ {i : Nat} {pins : List (Addr × Obj)} {s : Shared} {σ : L2.St} {H : Hp} {xs ys zs : List V}, Inv X pins σ H s → (∀ b ∈ [z, TI, TO, i1, i2, i3], FpOk X pins H b) →
      (IsZip s.heap z TI TO .none ∧ IsTupOf3 s.heap TI (.ref i1) (.ref i2) (.ref i3) ∧ (∃ x y v, IsTupOf3 s.heap TO x y v) ∧ IterAt t1 s.heap i1 a1 i ∧ IterAt t2 s.heap i2 a2 i ∧ IterAt t3 s.heap i3 a3 i) → SqB K H t1 a1 xs → SqB K H t2 a2 ys → SqB K H t3 a3 zs →
      Fac X s H (.Tuple elts kk tpos) (Jz3 K t1 a1 t2 a2 t3 a3) z [z, TI, TO, i1, i2, i3] [z, TO, i1, i2, i3] (fun i h => IsZip h z TI TO .none ∧ IsTupOf3 h TI (.ref i1) (.ref i2) (.ref i3) ∧ (∃ x y v, IsTupOf3 h TO x y v) ∧ IterAt t1 h i1 a1 i ∧ IterAt t2 h i2 a2 i ∧ IterAt t3 h i3 a3 i) i (min (min xs.length ys.length) zs.length) := fun {X} hP hw hK hc {i pins s σ H xs ys zs} I hf st h1 h2 h3 => by
    subst hP hw hK
    obtain ⟨its, rv, q1⟩ := seq_its I h1
    obtain ⟨its2, rv2, q2⟩ := seq_its I h2
    obtain ⟨its3, rv3, q3⟩ := seq_its I h3
    have S := sep I hf h1 h2 h3
    have n1 : a1 ≠ i1 := seq_ne I h1 (hf i1 (by simp))
    have n2 : a2 ≠ i2 := seq_ne I h2 (hf i2 (by simp))
    have n3 : a3 ≠ i3 := seq_ne I h3 (hf i3 (by simp))
    have W := GoesN.zip3 (elts := elts) (x1 := kk) (pos := tpos) S (draws_seq (prog := X.prog) (w := X.w) (in1_hd I hc) t1 i1 a1 n1 its.toArray) (draws_seq (prog := X.prog) (w := X.w) (in1_hd I hc) t2 i2 a2 n2 its2.toArray) (draws_seq (prog := X.prog) (w := X.w) (in1_hd I hc) t3 i3 a3 n3 its3.toArray)
    have e1 : its.toArray.size = xs.length := by simp [rv.length]
    have e2 : its2.toArray.size = ys.length := by simp [rv2.length]
    have e3 : its3.toArray.size = zs.length := by simp [rv3.length]
    rw [e1, e2, e3] at W
    refine ⟨_, _, _, W, ⟨st.1, st.2.1, st.2.2.1, ⟨st.2.2.2.1, q1⟩, ⟨st.2.2.2.2.1, q2⟩, ⟨st.2.2.2.2.2, q3⟩⟩, fun j h q => ⟨q.1, q.2.1, q.2.2.1, q.2.2.2.1.1, q.2.2.2.2.1.1, q.2.2.2.2.2.1⟩, fun v h' hi hy => ?_⟩
    obtain ⟨T, u1, u2, u3, rfl, hT, p1, p2, p3, hu⟩ := hy
    have l1 : i < xs.length := by omega
    have l2 : i < ys.length := by omega
    have l3 : i < zs.length := by omega
    have g1 : xs[i]? = some xs[i] := List.getElem?_eq_getElem l1
    have g2 : ys[i]? = some ys[i] := List.getElem?_eq_getElem l2
    have g3 : zs[i]? = some zs[i] := List.getElem?_eq_getElem l3
    refine ⟨T, [xs[i], ys[i], zs[i]], [u1, u2, u3], rfl, hT, .cons (vals_at rv g1 p1) (.cons (vals_at rv2 g2 p2) (.cons (vals_at rv3 g3 p3) .nil)), hu, by show 3 ≤ sizeLine; decide, fun hn => ⟨T, _, _, _, rfl, hn, rfl, fun l hl => ?_, fun l hl => ?_, fun l hl => ?_⟩⟩
    · rw [seq_inj I hl h1]; exact g1
    · rw [seq_inj I hl h2]; exact g2
    · rw [seq_inj I hl h3]; exact g3
  refine turn_of (wr := [z, TO, i1, i2, i3]) (by simp) (fun b hb => ?_) (fun i h st c hc => ?_) (fun i h h' st k => ?_) (fun A i s Q E st h => wpAny_pyIter_zip st.1 h) (fun X hP hw hK hc i pins s σ H I hf st hg => ?_) (fun X hP hw hK hc i pins s σ H I hf st hg => ?_)
  · simp at hb ⊢; rcases hb with rfl | rfl | rfl | rfl | rfl <;> simp
  · obtain ⟨hz, hTI, ⟨x, y, v, hTO⟩, h1, h2, h3⟩ := st
    have e' : c = z ∨ c = TI ∨ c = TO ∨ c = i1 ∨ c = i2 ∨ c = i3 := by simpa using hc
    rcases e' with q | q | q | q | q | q
    · rw [q]; exact ⟨_, hz, fun v q => nomatch q⟩
    · rw [q]; exact ⟨_, hTI, fun v q => nomatch q⟩
    · rw [q]; exact ⟨_, hTO, fun v q => nomatch q⟩
    · rw [q]; exact h1.obj
    · rw [q]; exact h2.obj
    · rw [q]; exact h3.obj
  · obtain ⟨hz, hTI, ⟨x, y, v, hTO⟩, h1, h2, h3⟩ := st
    exact ⟨k z (by simp) _ hz, k TI (by simp) _ hTI, ⟨x, y, v, k TO (by simp) _ hTO⟩, h1.at fun o q => k i1 (by simp) o q, h2.at fun o q => k i2 (by simp) o q, h3.at fun o q => k i3 (by simp) o q⟩
  · obtain ⟨xs, ys, zs, x, y, v, h1, h2, h3, g1, g2, g3⟩ := hg
    have l1 := (List.getElem?_eq_some_iff.mp g1).1
    have l2 := (List.getElem?_eq_some_iff.mp g2).1
    have l3 := (List.getElem?_eq_some_iff.mp g3).1
    exact ⟨min (min xs.length ys.length) zs.length, by omega, fac hP hw hK hc I hf st h1 h2 h3⟩
  · obtain ⟨xs, ys, zs, h1, h2, h3, e⟩ := hg
    have q := fac hP hw hK hc I hf st h1 h2 h3
    rw [← e] at q
    exact q
/-- enumerate of a list or a tuple -/
def Jen (K : PySem.W.Frag) (t : Bool) (a : Addr) : It :=
  ⟨fun i H => ∃ (xs : List V) (x : V), SqB K H t a xs ∧ xs[i]? = some x,
    fun i H v H' => ∃ T x, v = .ref T ∧ H T = none ∧ H' = upd H T (.tup [.int (i : Nat), x]) ∧ ∀ xs, SqB K H t a xs → xs[i]? = some x,
    fun i H => ∃ xs : List V, SqB K H t a xs ∧ i = xs.length⟩
theorem turn_en {P : Program} {w : World} {K : PySem.W.Frag} {elts : List Expr} {kk : Nat} {tpos : Pos} {t : Bool} {a e it : Addr} (D : e ≠ it) :
    Turn P w K (.Tuple elts kk tpos) (Jen K t a) [e, it] e (fun i h => (∃ old, IsEnum h e it (0 + (i : Int)) old) ∧ IterAt t h it a i) := by
  have fac : ∀ {X : Cx}, X.prog = P → X.w = w → X.K = K → X.calm = true → ∀ {i : Nat} {pins : List (Addr × Obj)} {s : Shared} {σ : L2.St} {H : Hp} {xs : List V}, Inv X pins σ H s → (∀ b ∈ [e, it], FpOk X pins H b) →
      ((∃ old, IsEnum s.heap e it (0 + (i : Int)) old) ∧ IterAt t s.heap it a i) → SqB K H t a xs →
      Fac X s H (.Tuple elts kk tpos) (Jen K t a) e [e, it] [e, it] (fun i h => (∃ old, IsEnum h e it (0 + (i : Int)) old) ∧ IterAt t h it a i) i xs.length := fun {X} hP hw hK hc {i pins s σ H xs} I hf st h1 => by
    subst hP hw hK
    obtain ⟨its, rv, q1⟩ := seq_its I h1
    have n1 : a ≠ it := seq_ne I h1 (hf it (by simp))
    have n2 : a ≠ e := seq_ne I h1 (hf e (by simp))
    have W := GoesN.enumFrom (elts := elts) (x1 := kk) (pos := tpos) 0 (draws_seq (prog := X.prog) (w := X.w) (in1_hd I hc) t it a n1 its.toArray) e D (by simp [D, n2.symm]) (by simp)
    have e1 : its.toArray.size = xs.length := by simp [rv.length]
    rw [e1] at W
    refine ⟨_, _, _, W, ⟨st.1, st.2, q1⟩, fun j h q => ⟨q.1, q.2.1⟩, fun v h' hi hy => ?_⟩
    obtain ⟨T, k, u, rfl, hT, p1, hu⟩ := hy
    have g1 : xs[i]? = some xs[i] := List.getElem?_eq_getElem hi
    refine ⟨T, [.int (i : Nat), xs[i]], [.int (0 + (i : Int)) k, u], rfl, hT, .cons ⟨k, by rw [Int.zero_add]⟩ (.cons (vals_at rv g1 p1) .nil), hu, by show 2 ≤ sizeLine; decide, fun hn => ⟨T, _, rfl, hn, rfl, fun l hl => ?_⟩⟩
    rw [seq_inj I hl h1]; exact g1
  refine turn_of (wr := [e, it]) (by simp) (fun b hb => hb) (fun i h st c hc => ?_) (fun i h h' st k => ?_) (fun A i s Q E st h => wpAny_pyIter_enum st.1.choose_spec h) (fun X hP hw hK hc i pins s σ H I hf st hg => ?_) (fun X hP hw hK hc i pins s σ H I hf st hg => ?_)
  · obtain ⟨⟨old, he⟩, h1⟩ := st
    have e' : c = e ∨ c = it := by simpa using hc
    rcases e' with q | q
    · rw [q]; exact ⟨_, he, fun v q => nomatch q⟩
    · rw [q]; exact h1.obj
  · obtain ⟨⟨old, he⟩, h1⟩ := st
    exact ⟨⟨old, k e (by simp) _ he⟩, h1.at fun o q => k it (by simp) o q⟩
  · obtain ⟨xs, x, h1, g1⟩ := hg
    exact ⟨xs.length, (List.getElem?_eq_some_iff.mp g1).1, fac hP hw hK hc I hf st h1⟩
  · obtain ⟨xs, h1, e⟩ := hg
    have q := fac hP hw hK hc I hf st h1
    rw [← e] at q
    exact q
theorem meets_enumerate_new1 {v : Value} {o : Obj} {H : Heap → Prop} (B : Begins v o H) :
    Meets (Builtin.«enumerate.__new__» ⟨[.type "enumerate", v], []⟩) (fun _ R s => H s.heap ∧
      R (.ok (.ret (.ref (s.heap.push o).objs.size))) { s with heap := (s.heap.push o).push { cls := .type "enumerate", data := .fields #[.none, .bool false, .ref s.heap.objs.size, rawInt 0, .none, .none] } }) :=
  .of_wp fun prog w A R s h => by
    obtain ⟨hp, g, d, tk, os⟩ := s; obtain ⟨h1, h⟩ := h
    have hsub := sub_enumerate
    have q1 : ∀ {A' : Around} {E : Value → Shared → Prop} {Q : Value → Shared → Prop}, Q (.ref hp.objs.size) ⟨hp.push o, g, d, tk, os⟩ → wpAny (model prog w) A' (pyIter v) Q E ⟨hp, g, d, tk, os⟩ :=
      fun q => B.iter prog w _ _ ⟨hp, g, d, tk, os⟩ _ h1 q
    wp_walk using q1
    refine wpAny_stack_any fun st => wpAny_pure ?_
    split
    · rename_i c _ _ _ _ _
      cases (c == Value.type "enumerate")
      · wp_walk using q1
        exact ⟨_, rfl, h⟩
      · wp_walk using q1
        exact ⟨_, rfl, h⟩
    · wp_walk using q1
      exact ⟨_, rfl, h⟩
theorem enum_begins1 {prog : Program} {w : World} {A : Around} {E : Value → Shared → Prop} {s : Shared} {v : Value} {o : Obj} {H : Heap → Prop} {Q : Value → Shared → Prop} (B : Begins v o H) (h1 : H s.heap)
    (h : ∀ h', IsEnum h' (s.heap.objs.size + 1) s.heap.objs.size 0 .none → h'.get? s.heap.objs.size = some o → h'.objs.size = s.heap.objs.size + 2 →
      (∀ b o, s.heap.get? b = some o → h'.get? b = some o) → Q (.ref (s.heap.objs.size + 1)) { s with heap := h' }) :
    wpAny (model prog w) A (call (.type "enumerate") [v]) Q E s := by
  refine callType_new F.called_enumerate (by decide) (F.typeCall_enumerate_1 _) (F.newCall_enumerate_1 _) (fun obj => F.args_object_init_2 obj _) F.entry_enumerate_new
    (meets_enumerate_new1 B) ⟨h1, ?_⟩
  have hz : (s.heap.push o).objs.size = s.heap.objs.size + 1 := Heap.size_push ..
  show _ ∧ _
  rw [hz]
  have he : IsEnum ((s.heap.push o).push { cls := .type "enumerate", data := .fields #[.none, .bool false, .ref s.heap.objs.size, rawInt 0, .none, .none] }) (s.heap.objs.size + 1) s.heap.objs.size 0 .none := by
    have := Heap.get?_push_size (s.heap.push o) (o := { cls := .type "enumerate", data := .fields #[.none, .bool false, .ref s.heap.objs.size, rawInt 0, .none, .none] }) rfl
    rw [hz] at this; exact this
  refine ⟨⟨_, he, rfl⟩, h _ he (Heap.get?_push_of_some _ (Heap.get?_push_size _ B.free)) (by rw [Heap.size_push, hz]) fun b o x => Heap.get?_push_of_some _ (Heap.get?_push_of_some _ x)⟩
end Rf

namespace Rf
open PySem PySem.Spec L2

/-! ### what is fixed -/
structure Cn where
  P : Program
  w : World
  K : PySem.W.Frag
  mg : Str → Option Value
  base : Heap
/-- the text: the functions' names and parameters, the constants' names, the names of the def at hand -/
structure Gm where
  N : List Str
  fns : List Str
  pars : List (List Str)
  cons : List Str
  fl : List Str
  kws : List (Nat × List Str × List Nat)
  mods : List Blt
/-- a def's promise -/
def spW (K : PySem.W.Frag) (fn : List W → Store → Option (W × Store)) (fr : Bool) (n : Nat) : Sp := fun vs H Q _ =>
  ∃ ω S ds d S', ω.H = H ∧ Rps K ω vs ds ∧ SR K ω S ∧ ds.length = n ∧ fn ds S = some (d, S') ∧ ∀ v ω', Ext ω ω' → SR K ω' S' → Post K fr ω ω' v d → Q v ω'.H
def bltNames : List Str := ["len", "abs", "max", "min", "int", "sum", "all", "any", "list", "tuple", "isinstance", "range", "zip", "enumerate", "bool", "str", "dict", "repr", "divmod", "sorted", "set", "reversed"]
def bltNm : Blt → Str
  | .len => "len" | .abs => "abs" | .max2 => "max" | .min2 => "min" | .int => "int" | .sum => "sum" | .all => "all" | .any => "any" | .list => "list" | .tuple => "tuple" | .gcd => "gcd" | .lcm => "lcm" | .max1 => "max" | .min1 => "min"
/-- a def's promise where no repr is under way -/
structure FnG (P : Program) (w : World) (K : PySem.W.Frag) (mg : Str → Option Value) (base : Heap) (k : Nat) (f : Addr) (fd : FuncData) (ps : List Str) (sp : Sp) : Prop where
  len : ∀ vs H Q E, sp vs H Q E → vs.length = ps.length
  run : ∀ (A : Around) (fr : List PySem.Env) (s : Shared) (H : Hp) (as_ : Args) (us : List Value) (vs : List V) (Q : VK), Room k A → A.guards = some [] → Env0 P w K mg base A fr s H → BindsTo s fd as_ (ps.zip us) → Vals vs us → sp vs H Q E0 →
    codeAny (model P w) A (.call (.ref f) as_) (CR CX0 fr P w H s Q E0) s
structure FnAt (C : Cn) (M : Sem) (k f : Nat) (x : Str) (ps : List Str) (a : Addr) (fd : FuncData) : Prop where
  ok : FnG C.P C.w C.K C.mg C.base k a fd ps (spW C.K (M.fn f) (M.fr f) ps.length)
  at_ : C.mg x = some (.ref a)
  kp : PySem.W.keepIn C.K (.ref a) = true
  bind : Binds C.K fd ps []
structure Hc (Γ : Gm) (C : Cn) (M : Sem) (k : Nat) : Prop where
  nd : Γ.N.Nodup
  free : ∀ x ∈ bltNames, C.mg x = none
  mods : ∀ b ∈ Γ.mods, C.mg (bltNm b) = some (bltVal b)
  fns : ∀ (f : Nat) x ps, Γ.fns[f]? = some x → Γ.pars[f]? = some ps → ∃ a fd, FnAt C M k f x ps a fd ∧ ∀ q ∈ Γ.kws, q.1 = f → ∀ (s : Shared) (ws vs : List Value), ws.length = q.2.1.length → arrange q.2.2 ws = some vs → vs.length = ps.length → BindsTo s fd ⟨[], q.2.1.zip ws⟩ (ps.zip vs)
  cons : ∀ (c : Nat) x, Γ.cons[c]? = some x → ∃ u v, C.mg x = some u ∧ RelV v u ∧ ∀ ω, Rp C.K ω v (M.con c)
structure Hx (Γ : Gm) (C : Cn) (k : Nat) (sc : Scope) (X : Cx) : Prop where
  prog : X.prog = C.P
  w : X.w = C.w
  K : X.K = C.K
  mg : X.mg = C.mg
  base : X.base = C.base
  calm : X.calm = true
  N : X.N = Γ.N
  scp : X.env.scope = sc
  room : Room k X.A
  gd : X.A.guards = some []
  fn : ∀ x ∈ Γ.fl, X.fn x = true

/-! ### readings by the reflected syntax -/
section
variable (K : PySem.W.Frag) (M : Sem)
def tE (ir : Xp) : TE := fun σ H Q => ∃ ω env S d S', ω.H = H ∧ ER K ω σ env ∧ SR K ω S ∧ evE M ir env S = some (d, S') ∧ ∀ v ω', Ext ω ω' → SR K ω' S' → Post K (fresh M ir) ω ω' v d → Q v ω'.H
def tU (ir : Xp) : TE := fun σ H Q => ∃ ω env S d S', ω.H = H ∧ ER K ω σ env ∧ SR K ω S ∧ evE M ir env S = some (d, S') ∧ ∀ v ω', Ext ω ω' → SR K ω' S' → Rp K ω' v d → Q v ω'.H
def tT (ir : Xp) : TT := fun σ H Q => ∃ ω env S b S', ω.H = H ∧ ER K ω σ env ∧ SR K ω S ∧ evT M ir env S = some (b, S') ∧ ∀ ω', Ext ω ω' → SR K ω' S' → Q b ω'.H
def tAs (irs : Xps) : TA := fun σ H Q => ∃ ω env S ds S', ω.H = H ∧ ER K ω σ env ∧ SR K ω S ∧ evEs M irs env S = some (ds, S') ∧ ∀ vs ω', Ext ω ω' → SR K ω' S' → Rps K ω' vs ds → Q vs ω'.H
def tTs (irs : Xps) : TT := fun σ H Q => ∃ ω env S b S', ω.H = H ∧ ER K ω σ env ∧ SR K ω S ∧ evTs M irs env S = some (b, S') ∧ ∀ ω', Ext ω ω' → SR K ω' S' → Q b ω'.H
end
/-- an iterator over known items -/
structure ItW (K : PySem.W.Frag) (J : It) (ω : Wd) (xs : List W) : Prop where
  go : ∀ ω' i, Ext ω ω' → i < xs.length → J.go i ω'.H
  yld : ∀ ω' S i x d H', Ext ω ω' → SR K ω' S → xs[i]? = some d → J.yld i ω'.H x H' → ∃ ω'', ω''.H = H' ∧ Ext ω' ω'' ∧ SR K ω'' S ∧ Rp K ω'' x d
  stop : ∀ ω', Ext ω ω' → J.stop xs.length ω'.H
def tI (K : PySem.W.Frag) (M : Sem) (ir : Xi) : TI := fun σ H R => ∃ ω env S xs S', ω.H = H ∧ ER K ω σ env ∧ SR K ω S ∧ evI M ir env S = some (xs, S') ∧ ∀ J ω', Ext ω ω' → SR K ω' S' → ItW K J ω' xs → R J ω'.H
mutual
/-- the names that a target stores -/
def Xt.vars : Xt → List Nat
  | .name i => [i]
  | .tup ts => Xts.vars ts
  | .sub _ _ => []
def Xts.vars : Xts → List Nat
  | .nil => []
  | .cons t r => Xt.vars t ++ Xts.vars r
end
/-- the same but for these names -/
def Ag (l : List Nat) (σ σ' : L2.St) : Prop := σ'.length = σ.length ∧ ∀ j, j ∉ l → σ'[j]? = σ[j]?
def tA (K : PySem.W.Frag) (M : Sem) (ir : Xt) : TG := fun v σ H Q => ∃ ω env S d env' S', ω.H = H ∧ ER K ω σ env ∧ SR K ω S ∧ Rp K ω v d ∧ asgT M ir d env S = some (env', S') ∧ ∀ σ' ω', Ext ω ω' → SR K ω' S' → ER K ω' σ' env' → Ag ir.vars σ σ' → Q σ' ω'.H
def tAL (K : PySem.W.Frag) (M : Sem) (ir : Xts) : TGs := fun vs σ H Q => ∃ ω env S ds env' S', ω.H = H ∧ ER K ω σ env ∧ SR K ω S ∧ Rps K ω vs ds ∧ asgTs M ir ds env S = some (env', S') ∧ ∀ σ' ω', Ext ω ω' → SR K ω' S' → ER K ω' σ' env' → Ag ir.vars σ σ' → Q σ' ω'.H

theorem PE.imp {X : Cx} {e : Expr} {t t' : TE} (h : PE X e t) (i : ∀ σ H Q, t' σ H Q → t σ H Q) : PE X e t' := ⟨fun pins s σ H Q I q => h.run pins s σ H Q I (i σ H Q q)⟩
theorem PT.imp {X : Cx} {e : Expr} {t t' : TT} (h : PT X e t) (i : ∀ σ H Q, t' σ H Q → t σ H Q) : PT X e t' := ⟨fun pins s σ H Q I q => h.run pins s σ H Q I (i σ H Q q)⟩
theorem PA.imp {X : Cx} {es : List Expr} {t t' : TA} (h : PA X es t) (i : ∀ σ H Q, t' σ H Q → t σ H Q) : PA X es t' := ⟨fun pos pins s σ H Q I q => h.run pos pins s σ H Q I (i σ H Q q)⟩
theorem PI.imp {X : Cx} {tg e : Expr} {t t' : TI} (h : PI X tg e t) (i : ∀ σ H Q, t' σ H Q → t σ H Q) : PI X tg e t' := ⟨fun pins s σ H Q I q => h.run pins s σ H Q I (i σ H Q q)⟩
theorem PG.imp {X : Cx} {tg : Expr} {t t' : TG} (h : PG X tg t) (i : ∀ v σ H Q, t' v σ H Q → t v σ H Q) : PG X tg t' := ⟨fun pins s σ H v u Q I r q => h.run pins s σ H v u Q I r (i v σ H Q q)⟩
theorem PGs.imp {X : Cx} {ts : List Expr} {t t' : TGs} (h : PGs X ts t) (i : ∀ v σ H Q, t' v σ H Q → t v σ H Q) : PGs X ts t' := ⟨fun pins s σ H v u Q I r q => h.run pins s σ H v u Q I r (i v σ H Q q)⟩
theorem PS.imp {X : Cx} {st : Stmt} {t t' : TS} (h : PS X st t) (i : ∀ D σ H, t' D σ H → t D σ H) : PS X st t' := ⟨fun pins s σ H D I q => h.run pins s σ H D I (i D σ H q)⟩
theorem PSs.imp {X : Cx} {st : List Stmt} {t t' : TS} (h : PSs X st t) (i : ∀ D σ H, t' D σ H → t D σ H) : PSs X st t' := ⟨fun pins s σ H D I q => h.run pins s σ H D I (i D σ H q)⟩

/-- a fresh result as any -/
theorem pe_unf {X : Cx} {e : Expr} {M : Sem} {ir : Xp} (h : PE X e (tE X.K M ir)) : PE X e (tU X.K M ir) := PE.imp h fun σ H Q ⟨ω, env, S, d, S', h1, er, sr, ev, q⟩ =>
  ⟨ω, env, S, d, S', h1, er, sr, ev, fun v ω' e' sr' p => by
    obtain ⟨ω3, eH, _, e3, sr3, r⟩ := p.rp sr e' sr'
    rw [← eH]
    exact q v ω3 e3 sr3 r⟩
theorem pe_plain {X : Cx} {e : Expr} {M : Sem} {ir : Xp} (hf : fresh M ir = false) (h : PE X e (tU X.K M ir)) : PE X e (tE X.K M ir) := PE.imp h fun σ H Q ⟨ω, env, S, d, S', h1, er, sr, ev, q⟩ =>
  ⟨ω, env, S, d, S', h1, er, sr, ev, fun v ω' e' sr' p => q v ω' e' sr' (by unfold Post; rw [hf, if_neg Bool.false_ne_true]; exact p)⟩

/-- what is plain of an expression: no star, no folded set, no slice -/
structure Pl (e : Expr) : Prop where
  star : ∀ es env, starEach (e :: es) env = (false, eval e env) :: starEach es env
  fold : ∀ env x, foldedSetIterable e env x = pure x
  mark : ∀ op, behindInMarks op e = false
  ix : PlainIx e
  base : ∀ f env, (∀ g es ks p, e ≠ .Call g es ks p) → attributeBase e f env (eval e env) = eval e env
  sw : (∀ a b c d, e ≠ .ListComp a b c d) → ∀ t l env, swapsWith e t l env = pure false
/-- sound: what the reflected expression says holds of the text's -/
structure SE (Γ : Gm) (sc : Scope) (e : Expr) (ir : Xp) : Prop where
  pl : Pl e
  pe : ∀ (C : Cn) (M : Sem) (k : Nat), Hc Γ C M k → ∀ X, Hx Γ C k sc X → PE X e (tE X.K M ir)
  pt : ∀ (C : Cn) (M : Sem) (k : Nat), Hc Γ C M k → ∀ X, Hx Γ C k sc X → PT X e (tT X.K M ir)
structure SEs (Γ : Gm) (sc : Scope) (es : List Expr) (irs : Xps) : Prop where
  all : ∀ env, starEach es env = es.map fun e => (false, eval e env)
  tl : ∀ env, starEach es.tail env = es.tail.map fun e => (false, eval e env)
  pa : ∀ (C : Cn) (M : Sem) (k : Nat), Hc Γ C M k → ∀ X, Hx Γ C k sc X → PA X es (tAs X.K M irs)
structure STs (Γ : Gm) (sc : Scope) (es : List Expr) (irs : Xps) : Prop where
  pt : ∀ (C : Cn) (M : Sem) (k : Nat), Hc Γ C M k → ∀ X, Hx Γ C k sc X → PTs X es (tTs X.K M irs)
structure SI (Γ : Gm) (sc : Scope) (tg e : Expr) (ir : Xi) : Prop where
  fold : ∀ env x, foldedSetIterable e env x = pure x
  pi : ∀ (C : Cn) (M : Sem) (k : Nat), Hc Γ C M k → ∀ X, Hx Γ C k sc X → PI X tg e (tI X.K M ir)
structure SG (Γ : Gm) (sc : Scope) (tg : Expr) (ir : Xt) : Prop where
  each : ∀ es env, assignEach (tg :: es) env = (false, assign tg env) :: assignEach es env
  pg : ∀ (C : Cn) (M : Sem) (k : Nat), Hc Γ C M k → ∀ X, Hx Γ C k sc X → PG X tg (tA X.K M ir)
theorem SG.star {Γ : Gm} {sc : Scope} {tg : Expr} {ir : Xt} (h : SG Γ sc tg ir) (es : List Expr) (env : PySem.Env) : (assignEach (tg :: es) env).findIdx? (·.1) = ((assignEach es env).findIdx? (·.1)).map (· + 1) := by rw [h.each, List.findIdx?_cons]; rfl
theorem SG.len {Γ : Gm} {sc : Scope} {tg : Expr} {ir : Xt} (h : SG Γ sc tg ir) (es : List Expr) (env : PySem.Env) : (assignEach (tg :: es) env).length = (assignEach es env).length + 1 := by rw [h.each]; rfl
theorem SG.cons {Γ : Gm} {sc : Scope} {tg : Expr} {ir : Xt} (h : SG Γ sc tg ir) (es : List Expr) (env : PySem.Env) : (assignEach (tg :: es) env).map (·.2) = assign tg env :: (assignEach es env).map (·.2) := by rw [h.each]; rfl
structure SGs (Γ : Gm) (sc : Scope) (ts : List Expr) (irs : Xts) : Prop where
  star : ∀ env, (assignEach ts env).findIdx? (·.1) = none
  len : ∀ env, (assignEach ts env).length = ts.length
  ln : ∀ (M : Sem) ds env S r, asgTs M irs ds env S = some r → ds.length = ts.length
  pg : ∀ (C : Cn) (M : Sem) (k : Nat), Hc Γ C M k → ∀ X, Hx Γ C k sc X → PGs X ts (tAL X.K M irs)
end Rf

namespace Rf
open PySem PySem.Spec L2

theorem evT_some {M : Sem} {ir : Xp} {env : Env} {S S' : Store} {b : Bool} (h : evT M ir env S = some (b, S')) : ∃ x, evE M ir env S = some (x, S') ∧ truW S' x = some b := by
  unfold evT at h
  cases q : evE M ir env S with
  | none => rw [q] at h; cases h
  | some p =>
    obtain ⟨x, S1⟩ := p
    rw [q] at h
    have h : (truW S1 x).map (fun k => (k, S1)) = some (b, S') := h
    cases q2 : truW S1 x with
    | none => rw [q2] at h; cases h
    | some k =>
      rw [q2] at h
      have e := Option.some.inj h
      cases e
      exact ⟨x, rfl, q2⟩
/-- a test by its value's truth -/
theorem pt_of {X : Cx} {M : Sem} {e : Expr} {ir : Xp} (h : PE X e (tE X.K M ir)) (hp : ∀ whole, isTrue e X.env whole = (do let v ← whole; standAt e.pos; holding [v] (truthy v))) : PT X e (tT X.K M ir) := PT.imp (pt_truth (pe_unf h) hp) fun σ H Q ⟨ω, env, S, b, S', h1, er, sr, ev, q⟩ => by
  obtain ⟨x, e1, e2⟩ := evT_some ev
  exact ⟨ω, env, S, x, S', h1, er, sr, e1, fun v ω' ex sr' r => ⟨b, tru_rd sr' r e2, q ω' ex sr'⟩⟩
/-- an expression that is plain, also as a test -/
theorem se_of {Γ : Gm} {sc : Scope} {e : Expr} {ir : Xp} (pl : Pl e) (hp : ∀ env whole, isTrue e env whole = (do let v ← whole; standAt e.pos; holding [v] (truthy v)))
    (h : ∀ (C : Cn) (M : Sem) (k : Nat), Hc Γ C M k → ∀ X, Hx Γ C k sc X → PE X e (tE X.K M ir)) : SE Γ sc e ir := ⟨pl, h, fun C M k hc X hx => pt_of (h C M k hc X hx) (hp _)⟩

section
variable {Γ : Gm} {sc : Scope} {pos p : Pos}
def visB (sc : Scope) (x : Str) : Bool := match sc.names.lookup x with
  | some .local => true
  | some .cell => true
  | some .free => true
  | _ => false
theorem vis_of {sc : Scope} {x : Str} (h : visB sc x = true) : Vis sc x := by
  unfold visB at h
  split at h
  · rename_i q; exact .inl q
  · rename_i q; exact .inr (.inl q)
  · rename_i q; exact .inr (.inr q)
  · cases h
/-- a name of the def -/
theorem se_var {x : Str} {i : Nat} (h1 : Γ.N[i]? = some x) (h2 : visB sc x = true) (h3 : (x == ("__debug__" : Str)) = false) (h4 : (x == ("__classdict__" : Str)) = false) : SE Γ sc (.Name x pos) (.var i) :=
  se_of ⟨fun _ _ => rfl, fun _ _ => rfl, fun _ => rfl, fun _ _ => rfl, fun _ _ _ => rfl, fun _ _ _ _ => rfl⟩ (fun _ _ => rfl) fun C M k hc X hx => pe_plain rfl (PE.imp (pe_var (i := i) (by rw [hx.N]; exact h1) (by rw [hx.scp]; exact vis_of h2) h3 h4) fun σ H Q ⟨ω, env, S, d, S', eH, er, sr, ev, q⟩ => by
    have ev : ((env[i]?).join).map (fun w => (w, S)) = some (d, S') := ev
    cases e : env[i]? with
    | none => rw [e] at ev; cases ev
    | some o =>
      rw [e] at ev
      cases o with
      | none => cases ev
      | some w =>
        have ev := Option.some.inj (show some (w, S) = some (d, S') from ev)
        cases ev
        obtain ⟨v, h5, h6⟩ := er.at_ i _ e
        subst eH
        exact ⟨v, h5, q v ω (.refl ω) sr h6⟩)
/-- constants -/
theorem se_cst {X : Cx} {M : Sem} {e : Expr} {v : V} {w : W} (h : PE X e (tC v)) (r : ∀ ω, Rp X.K ω v w) : PE X e (tE X.K M (.cst w)) := pe_plain rfl (PE.imp h fun σ H Q ⟨ω, env, S, d, S', eH, er, sr, ev, q⟩ => by
  have ev := Option.some.inj (show some (w, S) = some (d, S') from ev)
  cases ev
  subst eH
  exact q v ω (.refl ω) sr (r ω))
theorem se_int {i : Int} {j : Nat} : SE Γ sc (.Constant (.int i) j pos) (.cst (.int i)) :=
  se_of ⟨fun _ _ => rfl, fun _ _ => rfl, fun _ => rfl, fun _ _ => rfl, fun _ _ _ => rfl, fun _ _ _ _ => rfl⟩ (fun _ _ => rfl) fun C M k hc X hx => se_cst pe_int fun _ => .int i
theorem se_bl {b : Bool} {j : Nat} : SE Γ sc (.Constant (.bool b) j pos) (.cst (.bl b)) :=
  se_of ⟨fun _ _ => rfl, fun _ _ => rfl, fun _ => rfl, fun _ _ => rfl, fun _ _ _ => rfl, fun _ _ _ _ => rfl⟩ (fun _ _ => rfl) fun C M k hc X hx => se_cst pe_bl fun _ => .bl b
theorem se_non {j : Nat} : SE Γ sc (.Constant .none j pos) (.cst .non) :=
  se_of ⟨fun _ _ => rfl, fun _ _ => rfl, fun _ => rfl, fun _ _ => rfl, fun _ _ _ => rfl, fun _ _ _ _ => rfl⟩ (fun _ _ => rfl) fun C M k hc X hx => se_cst pe_non fun _ => .non
theorem se_str {x : Str} {j : Nat} : SE Γ sc (.Constant (.str x) j pos) (.cst (.str x)) :=
  se_of ⟨fun _ _ => rfl, fun _ _ => rfl, fun _ => rfl, fun _ _ => rfl, fun _ _ _ => rfl, fun _ _ _ _ => rfl⟩ (fun _ _ => rfl) fun C M k hc X hx => se_cst pe_str fun _ => .str x
/-- a module's constant -/
theorem se_con {x : Str} {c : Nat} (h1 : Γ.cons[c]? = some x) (h2 : sc.names.lookup x = some .globalImplicit) (h3 : (x == ("__debug__" : Str)) = false) : SE Γ sc (.Name x pos) (.con c) :=
  se_of ⟨fun _ _ => rfl, fun _ _ => rfl, fun _ => rfl, fun _ _ => rfl, fun _ _ _ => rfl, fun _ _ _ _ => rfl⟩ (fun _ _ => rfl) fun C M k hc X hx => by
    obtain ⟨u, v, e1, e2, e3⟩ := hc.cons c x h1
    refine pe_plain rfl (PE.imp (pe_glob (v := v) (by show X.env.scope.names.lookup x = _; rw [hx.scp]; exact h2) (by rw [hx.mg]; exact e1) e2 h3) fun σ H Q ⟨ω, env, S, d, S', eH, er, sr, ev, q⟩ => ?_)
    have ev := Option.some.inj (show some (M.con c, S) = some (d, S') from ev)
    cases ev
    subst eH
    exact q v ω (.refl ω) sr (by rw [hx.K]; exact e3 ω)

/-! ### argument lists, displays -/
theorem ses_nil : SEs Γ sc [] .nil := ⟨fun _ => rfl, fun _ => rfl, fun C M k hc X hx => PA.imp pa_nil fun σ H Q ⟨ω, env, S, ds, S', eH, er, sr, ev, q⟩ => by
  have ev := Option.some.inj (show some ([], S) = some (ds, S') from ev)
  cases ev
  subst eH
  exact q [] ω (.refl ω) sr .nil⟩
theorem evEs_cons {M : Sem} {a : Xp} {r : Xps} {env : Env} {S S' : Store} {ds : List W} (h : evEs M (.cons a r) env S = some (ds, S')) : ∃ x S1 xs, evE M a env S = some (x, S1) ∧ evEs M r env S1 = some (xs, S') ∧ ds = x :: xs := by
  rw [evEs] at h
  cases q : evE M a env S with
  | none => rw [q] at h; cases h
  | some p =>
    obtain ⟨x, S1⟩ := p
    rw [q] at h
    have h : (match evEs M r env S1 with | some (xs, S2) => some (x :: xs, S2) | none => none) = some (ds, S') := h
    cases q2 : evEs M r env S1 with
    | none => rw [q2] at h; cases h
    | some p =>
      obtain ⟨xs, S2⟩ := p
      rw [q2] at h
      have e := Option.some.inj (show some (x :: xs, S2) = some (ds, S') from h)
      cases e
      exact ⟨x, S1, xs, rfl, q2, rfl⟩
theorem ses_cons {a : Expr} {es : List Expr} {ir : Xp} {irs : Xps} (ha : SE Γ sc a ir) (hr : SEs Γ sc es irs) : SEs Γ sc (a :: es) (.cons ir irs) := by
  refine ⟨fun env => by rw [ha.pl.star, hr.all]; rfl, fun env => hr.all env, fun C M k hc X hx => PA.imp (pa_cons (pe_unf (ha.pe C M k hc X hx)) (hr.pa C M k hc X hx) (ha.pl.star es X.env)) fun σ H Q ⟨ω, env, S, ds, S', eH, er, sr, ev, q⟩ => ?_⟩
  · obtain ⟨x, S1, xs, e1, e2, rfl⟩ := evEs_cons ev
    refine ⟨ω, env, S, x, S1, eH, er, sr, e1, fun v ω1 ex1 sr1 r1 => ?_⟩
    refine ⟨ω1, env, S1, xs, S', rfl, er.mono ex1, sr1, e2, fun vs ω2 ex2 sr2 r2 => ?_⟩
    exact q (v :: vs) ω2 (.trans sr.tr ex1 ex2) sr2 (.cons (r1.mono ex2) r2)
theorem se_tup {es : List Expr} {irs : Xps} {j : Nat} (h : SEs Γ sc es irs) : SE Γ sc (.Tuple es j pos) (.tup irs) :=
  se_of ⟨fun _ _ => rfl, fun _ _ => rfl, fun _ => rfl, fun _ _ => rfl, fun _ _ _ => rfl, fun _ _ _ _ => rfl⟩ (fun _ _ => rfl) fun C M k hc X hx => pe_plain rfl (PE.imp (pe_tup (h.pa C M k hc X hx)) fun σ H Q ⟨ω, env, S, d, S', eH, er, sr, ev, q⟩ => by
    rw [evE] at ev
    cases q2 : evEs M irs env S with
    | none => rw [q2] at ev; cases ev
    | some p =>
      obtain ⟨ds, S1⟩ := p
      rw [q2] at ev
      have ev : (if ds.length ≤ sizeLine then some (W.tup ds, S1) else none) = some (d, S') := ev
      split at ev
      · rename_i le
        have ev := Option.some.inj ev
        cases ev
        refine ⟨ω, env, S, ds, _, eH, er, sr, q2, fun vs ω1 ex sr1 r => ⟨by rw [r.length]; exact le, fun p hp => ?_⟩⟩
        exact q (.ref p) (ω1.new p _) (.trans sr.tr ex (.new_ hp)) (sr1.new_ hp) (.newT sr1 hp r)
      · cases ev)
theorem se_lst {es : List Expr} {irs : Xps} (h : SEs Γ sc es irs) : SE Γ sc (.List es pos) (.lst irs) :=
  se_of ⟨fun _ _ => rfl, fun _ _ => rfl, fun _ => rfl, fun _ _ => rfl, fun _ _ _ => rfl, fun _ _ _ _ => rfl⟩ (fun _ _ => rfl) fun C M k hc X hx => PE.imp (pe_lst (h.pa C M k hc X hx)) fun σ H Q ⟨ω, env, S, d, S', eH, er, sr, ev, q⟩ => by
    rw [evE] at ev
    cases q2 : evEs M irs env S with
    | none => rw [q2] at ev; cases ev
    | some p =>
      obtain ⟨ds, S1⟩ := p
      rw [q2] at ev
      have ev : (if ds.length ≤ sizeLine then some (W.lst ds, S1) else none) = some (d, S') := ev
      split at ev
      · rename_i le
        have ev := Option.some.inj ev
        cases ev
        refine ⟨ω, env, S, ds, _, eH, er, sr, q2, fun vs ω1 ex sr1 r => ⟨by rw [r.length]; exact le, fun p hp => ?_⟩⟩
        exact q (.ref p) (ω1.newL p vs) (.trans sr.tr ex (.newL hp)) (sr1.newL hp) (Fresh.newL sr ex sr1 hp r)
      · cases ev
theorem se_edict : SE Γ sc (.Dict [] [] pos) .edict :=
  se_of ⟨fun _ _ => rfl, fun _ _ => rfl, fun _ => rfl, fun _ _ => rfl, fun _ _ _ => rfl, fun _ _ _ _ => rfl⟩ (fun _ _ => rfl) fun C M k hc X hx => pe_plain rfl (PE.imp pe_dnewK fun σ H Q ⟨ω, env, S, d, S', eH, er, sr, ev, q⟩ => by
    have ev := Option.some.inj (show some (W.edict, S) = some (d, S') from ev)
    cases ev
    subst eH
    intro p hp
    refine q (.ref p) (ω.new p _) (.new_ hp) (sr.new_ hp) (.edict upd_same fun z => ?_)
    obtain ⟨us, e⟩ := sr.tr p z
    rw [hp] at e; cases e)

/-! ### operators -/
theorem ev2 {α : Type} {M : Sem} {a b : Xp} {env : Env} {S : Store} {r : α} {f : W → W → Store → Option α}
    (h : (match evE M a env S with | some (x, S1) => (match evE M b env S1 with | some (y, S2) => f x y S2 | none => none) | none => none) = some r) : ∃ x S1 y S2, evE M a env S = some (x, S1) ∧ evE M b env S1 = some (y, S2) ∧ f x y S2 = some r := by
  cases q : evE M a env S with
  | none => rw [q] at h; cases h
  | some p =>
    obtain ⟨x, S1⟩ := p
    rw [q] at h
    have h : (match evE M b env S1 with | some (y, S2) => f x y S2 | none => none) = some r := h
    cases q2 : evE M b env S1 with
    | none => rw [q2] at h; cases h
    | some p =>
      obtain ⟨y, S2⟩ := p
      rw [q2] at h
      exact ⟨x, S1, y, S2, rfl, q2, h⟩
/-- two operands, then a rule by values -/
theorem two_in {K : PySem.W.Frag} {M : Sem} {a b : Xp} {σ : L2.St} {H : Hp} {Q : V → V → Hp → Prop} {ω : Wd} {env : Env} {S S1 S2 : Store} {x y : W} (eH : ω.H = H) (er : ER K ω σ env) (sr : SR K ω S) (e1 : evE M a env S = some (x, S1)) (e2 : evE M b env S1 = some (y, S2))
    (q : ∀ v u ω', Ext ω ω' → SR K ω' S2 → Rp K ω' v x → Rp K ω' u y → Q v u ω'.H) : tU K M a σ H fun v H1 => tU K M b σ H1 fun u H2 => Q v u H2 :=
  ⟨ω, env, S, x, S1, eH, er, sr, e1, fun v ω1 ex1 sr1 r1 => ⟨ω1, env, S1, y, S2, rfl, er.mono ex1, sr1, e2, fun u ω2 ex2 sr2 r2 => q v u ω2 (.trans sr.tr ex1 ex2) sr2 (r1.mono ex2) r2⟩⟩
theorem map_some {α β : Type} {o : Option α} {f : α → β} {b : β} (h : o.map f = some b) : ∃ a, o = some a ∧ f a = b := by
  cases o with
  | none => cases h
  | some a => exact ⟨a, rfl, Option.some.inj h⟩
theorem se_bin {a b : Expr} {ira irb : Xp} {op : Bop} (ha : SE Γ sc a ira) (hb : SE Γ sc b irb) : SE Γ sc (.BinOp a (bopOf op) b pos) (.bin op ira irb) :=
  se_of ⟨fun _ _ => rfl, fun _ _ => rfl, fun _ => rfl, fun _ _ => rfl, fun _ _ _ => rfl, fun _ _ _ _ => rfl⟩ (fun _ _ => rfl) fun C M k hc X hx => pe_plain rfl (PE.imp (pe_op (op_bin op) (pe_unf (ha.pe C M k hc X hx)) (pe_unf (hb.pe C M k hc X hx))) fun σ H Q ⟨ω, env, S, d, S', eH, er, sr, ev, q⟩ => by
    rw [evE] at ev
    obtain ⟨x, S1, y, S2, e1, e2, ev⟩ := ev2 ev
    obtain ⟨z, e3, e4⟩ := map_some ev
    cases e4
    exact two_in eH er sr e1 e2 fun v u ω' ex sr' r1 r2 => ⟨ω', _, x, y, d, rfl, sr', r1, r2, e3, fun w ω2 ex2 sr2 r3 => q w ω2 (.trans sr.tr ex ex2) sr2 r3⟩)
theorem se_neg {a : Expr} {ir : Xp} (ha : SE Γ sc a ir) : SE Γ sc (.UnaryOp .USub a pos) (.neg ir) :=
  se_of ⟨fun _ _ => rfl, fun _ _ => rfl, fun _ => rfl, fun _ _ => rfl, fun _ _ _ => rfl, fun _ _ _ _ => rfl⟩ (fun _ _ => rfl) fun C M k hc X hx => pe_plain rfl (PE.imp (pe_un un_neg (pe_unf (ha.pe C M k hc X hx))) fun σ H Q ⟨ω, env, S, d, S', eH, er, sr, ev, q⟩ => by
    rw [evE] at ev
    cases q2 : evE M ir env S with
    | none => rw [q2] at ev; cases ev
    | some p =>
      obtain ⟨x, S1⟩ := p
      rw [q2] at ev
      cases x with
      | int i =>
        have ev := Option.some.inj (show some (W.int (-i), S1) = some (d, S') from ev)
        cases ev
        exact ⟨ω, env, S, .int i, _, eH, er, sr, q2, fun v ω1 ex sr1 r => by cases r; exact ⟨i, rfl, q _ ω1 ex sr1 (.int _)⟩⟩
      | _ => cases ev)
theorem ev_not {M : Sem} {ir : Xp} {env : Env} {S S' : Store} {d : W} (ev : evE M (.nott ir) env S = some (d, S')) : ∃ x k, evE M ir env S = some (x, S') ∧ truW S' x = some k ∧ d = .bl (!k) := by
  rw [evE] at ev
  cases q2 : evE M ir env S with
  | none => rw [q2] at ev; cases ev
  | some p =>
    obtain ⟨x, S1⟩ := p
    rw [q2] at ev
    obtain ⟨k, e1, e2⟩ := map_some (show (truW S1 x).map (fun k => (W.bl (!k), S1)) = some (d, S') from ev)
    cases e2
    exact ⟨x, k, rfl, e1, rfl⟩
theorem se_not {a : Expr} {ir : Xp} (ha : SE Γ sc a ir) : SE Γ sc (.UnaryOp .Not a pos) (.nott ir) := by
  refine ⟨⟨fun _ _ => rfl, fun _ _ => rfl, fun _ => rfl, fun _ _ => rfl, fun _ _ _ => rfl, fun _ _ _ _ => rfl⟩, fun C M k hc X hx => pe_plain rfl (PE.imp (pe_notT (pe_unf (ha.pe C M k hc X hx))) fun σ H Q ⟨ω, env, S, d, S', eH, er, sr, ev, q⟩ => ?_), fun C M k hc X hx => PT.imp (pt_not (ha.pt C M k hc X hx)) fun σ H Q ⟨ω, env, S, b, S', eH, er, sr, ev, q⟩ => ?_⟩
  · obtain ⟨x, c, e1, e2, rfl⟩ := ev_not ev
    exact ⟨ω, env, S, x, S', eH, er, sr, e1, fun v ω1 ex sr1 r => ⟨c, tru_rd sr1 r e2, q _ ω1 ex sr1 (.bl _)⟩⟩
  · obtain ⟨d, e0, e3⟩ := evT_some ev
    obtain ⟨x, c, e1, e2, rfl⟩ := ev_not e0
    have e3 := Option.some.inj (show some (!c) = some b from e3)
    subst e3
    exact ⟨ω, env, S, c, S', eH, er, sr, by unfold evT; rw [e1]; show (truW S' x).map _ = _; rw [e2]; rfl, fun ω1 ex sr1 => q ω1 ex sr1⟩
theorem se_cmp {a b : Expr} {ira irb : Xp} {op : Cop} (ha : SE Γ sc a ira) (hb : SE Γ sc b irb) : SE Γ sc (.Compare a [copOf op] [b] pos) (.cmp op ira irb) := by
  have pe : ∀ (C : Cn) (M : Sem) (k : Nat), Hc Γ C M k → ∀ X, Hx Γ C k sc X → ∀ (σ : L2.St) (H : Hp) (Q : VK), (∃ ω env S d S', ω.H = H ∧ ER X.K ω σ env ∧ SR X.K ω S ∧ evE M (.cmp op ira irb) env S = some (d, S') ∧ ∀ k, d = .bl k → ∀ ω', Ext ω ω' → SR X.K ω' S' → Q (.bl k) ω'.H) → tOp (rCmpW X.K op) (tU X.K M ira) (tU X.K M irb) σ H Q := fun C M k hc X hx σ H Q ⟨ω, env, S, d, S', eH, er, sr, ev, q⟩ => by
    rw [evE] at ev
    obtain ⟨x, S1, y, S2, e1, e2, ev⟩ := ev2 ev
    obtain ⟨z, e3, e4⟩ := map_some ev
    cases e4
    exact two_in eH er sr e1 e2 fun v u ω' ex sr' r1 r2 => ⟨ω', _, x, y, d, rfl, sr', r1, r2, e3, fun c ec => q c ec ω' ex sr'⟩
  refine ⟨⟨fun _ _ => rfl, fun _ _ => rfl, fun _ => rfl, fun _ _ => rfl, fun _ _ _ => rfl, fun _ _ _ _ => rfl⟩, fun C M k hc X hx => pe_plain rfl (PE.imp (pe_cmpR (op_cmp op hx.room.units) (pe_unf (ha.pe C M k hc X hx)) (pe_unf (hb.pe C M k hc X hx)) (hb.pl.mark _)) fun σ H Q ⟨ω, env, S, d, S', eH, er, sr, ev, q⟩ => ?_), fun C M k hc X hx => PT.imp (pt_cmpR (op_cmp op hx.room.units) (pe_unf (ha.pe C M k hc X hx)) (pe_unf (hb.pe C M k hc X hx)) (hb.pl.mark _)) fun σ H Q ⟨ω, env, S, b, S', eH, er, sr, ev, q⟩ => ?_⟩
  · exact pe C M k hc X hx σ H Q ⟨ω, env, S, d, S', eH, er, sr, ev, fun c ec ω' ex sr' => q _ ω' ex sr' (by rw [ec]; exact .bl c)⟩
  · obtain ⟨d, e0, e3⟩ := evT_some ev
    refine pe C M k hc X hx σ H _ ⟨ω, env, S, d, S', eH, er, sr, e0, fun c ec ω' ex sr' => ⟨c, rfl, ?_⟩⟩
    subst ec
    have e3 := Option.some.inj (show some c = some b from e3)
    subst e3
    exact q ω' ex sr'
theorem ev_chain {M : Sem} {a b c : Xp} {op op' : Cop} {env : Env} {S S' : Store} {d : W} (ev : evE M (.chain op op' a b c) env S = some (d, S')) : ∃ x S1 y S2, evE M a env S = some (x, S1) ∧ evE M b env S1 = some (y, S2) ∧
    ((cmpW S2 op x y = some (.bl false) ∧ d = .bl false ∧ S' = S2) ∨ (cmpW S2 op x y = some (.bl true) ∧ ∃ z, evE M c env S2 = some (z, S') ∧ cmpW S' op' y z = some d)) := by
  rw [evE] at ev
  obtain ⟨x, S1, y, S2, e1, e2, ev⟩ := ev2 ev
  refine ⟨x, S1, y, S2, e1, e2, ?_⟩
  cases q : cmpW S2 op x y with
  | none => rw [q] at ev; cases ev
  | some r =>
    obtain ⟨t, rfl⟩ := cmp_bl q
    rw [q] at ev
    cases t with
    | false =>
      have ev := Option.some.inj (show some (W.bl false, S2) = some (d, S') from ev)
      cases ev
      exact .inl ⟨rfl, rfl, rfl⟩
    | true =>
      have ev : (match evE M c env S2 with | some (z, S3) => (cmpW S3 op' y z).map (fun q => (q, S3)) | none => none) = some (d, S') := ev
      cases q2 : evE M c env S2 with
      | none => rw [q2] at ev; cases ev
      | some p =>
        obtain ⟨z, S3⟩ := p
        rw [q2] at ev
        obtain ⟨w, e3, e4⟩ := map_some (show (cmpW S3 op' y z).map (fun q => (q, S3)) = some (d, S') from ev)
        cases e4
        exact .inr ⟨rfl, z, rfl, e3⟩
theorem se_chain {a b c : Expr} {ira irb irc : Xp} {op op' : Cop} (ha : SE Γ sc a ira) (hb : SE Γ sc b irb) (hcc : SE Γ sc c irc) : SE Γ sc (.Compare a [copOf op, copOf op'] [b, c] pos) (.chain op op' ira irb irc) := by
  have pe : ∀ (C : Cn) (M : Sem) (k : Nat), Hc Γ C M k → ∀ X, Hx Γ C k sc X → ∀ (σ : L2.St) (H : Hp) (Q : VK), (∃ ω env S d S', ω.H = H ∧ ER X.K ω σ env ∧ SR X.K ω S ∧ evE M (.chain op op' ira irb irc) env S = some (d, S') ∧ ∀ k, d = .bl k → ∀ ω', Ext ω ω' → SR X.K ω' S' → Q (.bl k) ω'.H) → tChain (rCmpW X.K op) (rCmpW X.K op') (tU X.K M ira) (tU X.K M irb) (tU X.K M irc) σ H Q := fun C M k hc X hx σ H Q ⟨ω, env, S, d, S', eH, er, sr, ev, q⟩ => by
    obtain ⟨x, S1, y, S2, e1, e2, ev⟩ := ev_chain ev
    refine two_in eH er sr e1 e2 fun v u ω' ex sr' r1 r2 => ?_
    rcases ev with ⟨e3, rfl, rfl⟩ | ⟨e3, z, e4, e5⟩
    · refine ⟨ω', _, x, y, _, rfl, sr', r1, r2, e3, fun t et => ⟨t, rfl, ?_⟩⟩
      cases et
      rw [if_neg Bool.false_ne_true]
      exact q false rfl ω' ex sr'
    · refine ⟨ω', S2, x, y, _, rfl, sr', r1, r2, e3, fun t et => ⟨t, rfl, ?_⟩⟩
      cases et
      rw [if_pos rfl]
      refine ⟨ω', env, S2, z, S', rfl, er.mono ex, sr', e4, fun w ω2 ex2 sr2 r3 => ⟨ω2, S', y, z, d, rfl, sr2, r2.mono ex2, r3, e5, fun c ec => q c ec ω2 (.trans sr.tr ex ex2) sr2⟩⟩
  have mk : lastMarks [copOf op, copOf op'] [b, c] = false := hcc.pl.mark _
  refine ⟨⟨fun _ _ => rfl, fun _ _ => rfl, fun _ => rfl, fun _ _ => rfl, fun _ _ _ => rfl, fun _ _ _ _ => rfl⟩, fun C M k hc X hx => pe_plain rfl (PE.imp (pe_chain (op_cmp op hx.room.units) (op_cmp op' hx.room.units) (pe_unf (ha.pe C M k hc X hx)) (pe_unf (hb.pe C M k hc X hx)) (pe_unf (hcc.pe C M k hc X hx)) mk) fun σ H Q ⟨ω, env, S, d, S', eH, er, sr, ev, q⟩ => ?_), fun C M k hc X hx => PT.imp (pt_chain (op_cmp op hx.room.units) (op_cmp op' hx.room.units) (pe_unf (ha.pe C M k hc X hx)) (pe_unf (hb.pe C M k hc X hx)) (pe_unf (hcc.pe C M k hc X hx)) mk) fun σ H Q ⟨ω, env, S, b, S', eH, er, sr, ev, q⟩ => ?_⟩
  · exact pe C M k hc X hx σ H Q ⟨ω, env, S, d, S', eH, er, sr, ev, fun c ec ω' ex sr' => q _ ω' ex sr' (by rw [ec]; exact .bl c)⟩
  · obtain ⟨d, e0, e3⟩ := evT_some ev
    refine pe C M k hc X hx σ H _ ⟨ω, env, S, d, S', eH, er, sr, e0, fun c ec ω' ex sr' => ⟨c, rfl, ?_⟩⟩
    subst ec
    have e3 := Option.some.inj (show some c = some b from e3)
    subst e3
    exact q ω' ex sr'
end
end Rf

namespace Rf
open PySem PySem.Spec L2

/-- its test is its value's truth -/
def plainTest : Expr → Bool
  | .UnaryOp .Not _ _ => false
  | .BoolOp .. => false
  | .IfExp .. => false
  | .Compare .. => false
  | _ => true
theorem plainTest_ok {e : Expr} (h : plainTest e = true) : ∀ env whole, isTrue e env whole = (do let v ← whole; standAt e.pos; holding [v] (truthy v)) := by
  cases e with
  | UnaryOp op _ _ => cases op with
    | Not => exact nomatch h
    | _ => exact fun _ _ => rfl
  | BoolOp _ _ _ => exact nomatch h
  | IfExp _ _ _ _ => exact nomatch h
  | Compare _ _ _ _ => exact nomatch h
  | _ => exact fun _ _ => rfl

section
variable {Γ : Gm} {sc : Scope} {pos p : Pos}
theorem ev1 {α : Type} {M : Sem} {a : Xp} {env : Env} {S : Store} {r : α} {f : W → Store → Option α} (h : (match evE M a env S with | some (x, S1) => f x S1 | none => none) = some r) : ∃ x S1, evE M a env S = some (x, S1) ∧ f x S1 = some r := by
  cases q : evE M a env S with
  | none => rw [q] at h; cases h
  | some p =>
    obtain ⟨x, S1⟩ := p
    rw [q] at h
    exact ⟨x, S1, rfl, h⟩
theorem bool3 {α : Type} {o : Option Bool} {r : α} {f g : Option α} (h : (match o with | some true => f | some false => g | none => none) = some r) : (o = some true ∧ f = some r) ∨ (o = some false ∧ g = some r) := by
  cases o with
  | none => cases h
  | some b => cases b with
    | true => exact .inl ⟨rfl, h⟩
    | false => exact .inr ⟨rfl, h⟩
theorem bool3' {α : Type} {o : Option Bool} {r : α} {f g : Option α} (h : (match o with | some false => f | some true => g | none => none) = some r) : (o = some false ∧ f = some r) ∨ (o = some true ∧ g = some r) := by
  cases o with
  | none => cases h
  | some b => cases b with
    | true => exact .inr ⟨rfl, h⟩
    | false => exact .inl ⟨rfl, h⟩

/-! ### and, or -/
structure SB (Γ : Gm) (sc : Scope) (op : BoolOp) (es : List Expr) (ir : Xp) : Prop where
  pe : ∀ (pos : Pos) (C : Cn) (M : Sem) (k : Nat), Hc Γ C M k → ∀ X, Hx Γ C k sc X → PE X (.BoolOp op es pos) (tU X.K M ir)
  pw : ∀ (pos : Pos) (C : Cn) (M : Sem) (k : Nat), Hc Γ C M k → ∀ X, Hx Γ C k sc X → PW X (.BoolOp op es pos) (tT X.K M ir)
theorem sb_one {op : BoolOp} {a : Expr} {ir : Xp} (ha : SE Γ sc a ir) : SB Γ sc op [a] ir := by
  refine ⟨fun pos C M k hc X hx => pe_one (pe_unf (ha.pe C M k hc X hx)), fun pos C M k hc X hx => ?_⟩
  cases op with
  | And => exact pw_and1 (ha.pt C M k hc X hx)
  | Or => exact pw_or1 (ha.pt C M k hc X hx)
theorem evT_and {M : Sem} {a b : Xp} {env : Env} {S S' : Store} {r : Bool} (h : evT M (.andd a b) env S = some (r, S')) : ∃ c S1, evT M a env S = some (c, S1) ∧ ((c = true ∧ evT M b env S1 = some (r, S')) ∨ (c = false ∧ r = false ∧ S' = S1)) := by
  obtain ⟨d, e0, e3⟩ := evT_some h
  rw [evE] at e0
  obtain ⟨x, S1, e1, e2⟩ := ev1 e0
  rcases bool3 e2 with ⟨q, e2⟩ | ⟨q, e2⟩
  · refine ⟨true, S1, by unfold evT; rw [e1]; show (truW S1 x).map _ = _; rw [q]; rfl, .inl ⟨rfl, ?_⟩⟩
    unfold evT; rw [e2]; show (truW S' d).map _ = _; rw [e3]; rfl
  · have e2 := Option.some.inj e2
    cases e2
    refine ⟨false, _, by unfold evT; rw [e1]; show (truW S' d).map _ = _; rw [q]; rfl, .inr ⟨rfl, ?_, rfl⟩⟩
    rw [q] at e3
    exact (Option.some.inj e3).symm
theorem evT_or {M : Sem} {a b : Xp} {env : Env} {S S' : Store} {r : Bool} (h : evT M (.orr a b) env S = some (r, S')) : ∃ c S1, evT M a env S = some (c, S1) ∧ ((c = false ∧ evT M b env S1 = some (r, S')) ∨ (c = true ∧ r = true ∧ S' = S1)) := by
  obtain ⟨d, e0, e3⟩ := evT_some h
  rw [evE] at e0
  obtain ⟨x, S1, e1, e2⟩ := ev1 e0
  rcases bool3' e2 with ⟨q, e2⟩ | ⟨q, e2⟩
  · refine ⟨false, S1, by unfold evT; rw [e1]; show (truW S1 x).map _ = _; rw [q]; rfl, .inl ⟨rfl, ?_⟩⟩
    unfold evT; rw [e2]; show (truW S' d).map _ = _; rw [e3]; rfl
  · have e2 := Option.some.inj e2
    cases e2
    refine ⟨true, _, by unfold evT; rw [e1]; show (truW S' d).map _ = _; rw [q]; rfl, .inr ⟨rfl, ?_, rfl⟩⟩
    rw [q] at e3
    exact (Option.some.inj e3).symm

theorem pw_mk {X : Cx} {e : Expr} {t t' : TT} (h : PW X e t) (i : ∀ σ H Q, t' σ H Q → t σ H Q) : PW X e t' := ⟨fun wh pins s σ H Q I q => h.run wh pins s σ H Q I (i σ H Q q)⟩
theorem sb_and {a b : Expr} {es : List Expr} {ir irs : Xp} (ha : SE Γ sc a ir) (hb : SB Γ sc .And (b :: es) irs) : SB Γ sc .And (a :: b :: es) (.andd ir irs) := by
  refine ⟨fun pos C M k hc X hx => PE.imp (pe_andT (pe_unf (ha.pe C M k hc X hx)) (hb.pe pos C M k hc X hx)) fun σ H Q ⟨ω, env, S, d, S', eH, er, sr, ev, q⟩ => ?_, fun pos C M k hc X hx => pw_mk (pw_and (ha.pt C M k hc X hx) (hb.pw pos C M k hc X hx)) fun σ H Q ⟨ω, env, S, d, S', eH, er, sr, ev, q⟩ => ?_⟩
  · rw [evE] at ev
    obtain ⟨x, S1, e1, e2⟩ := ev1 ev
    refine ⟨ω, env, S, x, S1, eH, er, sr, e1, fun v ω1 ex sr1 r => ?_⟩
    rcases bool3 e2 with ⟨q1, e2⟩ | ⟨q1, e2⟩
    · exact ⟨true, tru_rd sr1 r q1, iteT ⟨ω1, env, S1, d, S', rfl, er.mono ex, sr1, e2, fun u ω2 ex2 sr2 r2 => q u ω2 (.trans sr.tr ex ex2) sr2 r2⟩⟩
    · have e2 := Option.some.inj e2
      cases e2
      exact ⟨false, tru_rd sr1 r q1, iteF (q v ω1 ex sr1 r)⟩
  · obtain ⟨c, S1, e1, e2⟩ := evT_and ev
    refine ⟨ω, env, S, c, S1, eH, er, sr, e1, fun ω1 ex sr1 => ?_⟩
    rcases e2 with ⟨rfl, e2⟩ | ⟨rfl, rfl, rfl⟩
    · exact iteT ⟨ω1, env, S1, d, S', rfl, er.mono ex, sr1, e2, fun ω2 ex2 sr2 => q ω2 (.trans sr.tr ex ex2) sr2⟩
    · exact iteF (q ω1 ex sr1)
theorem sb_or {a b : Expr} {es : List Expr} {ir irs : Xp} (ha : SE Γ sc a ir) (hb : SB Γ sc .Or (b :: es) irs) : SB Γ sc .Or (a :: b :: es) (.orr ir irs) := by
  refine ⟨fun pos C M k hc X hx => PE.imp (pe_orT (pe_unf (ha.pe C M k hc X hx)) (hb.pe pos C M k hc X hx)) fun σ H Q ⟨ω, env, S, d, S', eH, er, sr, ev, q⟩ => ?_, fun pos C M k hc X hx => pw_mk (pw_or (ha.pt C M k hc X hx) (hb.pw pos C M k hc X hx)) fun σ H Q ⟨ω, env, S, d, S', eH, er, sr, ev, q⟩ => ?_⟩
  · rw [evE] at ev
    obtain ⟨x, S1, e1, e2⟩ := ev1 ev
    refine ⟨ω, env, S, x, S1, eH, er, sr, e1, fun v ω1 ex sr1 r => ?_⟩
    rcases bool3' e2 with ⟨q1, e2⟩ | ⟨q1, e2⟩
    · exact ⟨false, tru_rd sr1 r q1, iteF ⟨ω1, env, S1, d, S', rfl, er.mono ex, sr1, e2, fun u ω2 ex2 sr2 r2 => q u ω2 (.trans sr.tr ex ex2) sr2 r2⟩⟩
    · have e2 := Option.some.inj e2
      cases e2
      exact ⟨true, tru_rd sr1 r q1, iteT (q v ω1 ex sr1 r)⟩
  · obtain ⟨c, S1, e1, e2⟩ := evT_or ev
    refine ⟨ω, env, S, c, S1, eH, er, sr, e1, fun ω1 ex sr1 => ?_⟩
    rcases e2 with ⟨rfl, e2⟩ | ⟨rfl, rfl, rfl⟩
    · exact iteF ⟨ω1, env, S1, d, S', rfl, er.mono ex, sr1, e2, fun ω2 ex2 sr2 => q ω2 (.trans sr.tr ex ex2) sr2⟩
    · exact iteT (q ω1 ex sr1)
/-- and, or: no new list -/
def isBool : Xp → Bool
  | .andd .. => true
  | .orr .. => true
  | _ => false
theorem se_bool {op : BoolOp} {es : List Expr} {ir : Xp} (h : SB Γ sc op es ir) (hi : isBool ir = true) : SE Γ sc (.BoolOp op es pos) ir := by
  refine ⟨⟨fun _ _ => rfl, fun _ _ => rfl, fun _ => rfl, fun _ _ => rfl, fun _ _ _ => rfl, fun _ _ _ _ => rfl⟩, fun C M k hc X hx => pe_plain ?_ (h.pe pos C M k hc X hx), fun C M k hc X hx => (h.pw pos C M k hc X hx).pt⟩
  cases ir <;> first | rfl | exact nomatch hi

/-! ### a if t else b -/
theorem evT_ite {M : Sem} {t a b : Xp} {env : Env} {S S' : Store} {r : Bool} (h : evT M (.ite t a b) env S = some (r, S')) : ∃ c S1, evT M t env S = some (c, S1) ∧ ((c = true ∧ evT M a env S1 = some (r, S')) ∨ (c = false ∧ evT M b env S1 = some (r, S'))) := by
  obtain ⟨d, e0, e3⟩ := evT_some h
  rw [evE] at e0
  obtain ⟨x, S1, e1, e2⟩ := ev1 e0
  rcases bool3 e2 with ⟨q, e2⟩ | ⟨q, e2⟩
  · refine ⟨true, S1, by unfold evT; rw [e1]; show (truW S1 x).map _ = _; rw [q]; rfl, .inl ⟨rfl, ?_⟩⟩
    unfold evT; rw [e2]; show (truW S' d).map _ = _; rw [e3]; rfl
  · refine ⟨false, S1, by unfold evT; rw [e1]; show (truW S1 x).map _ = _; rw [q]; rfl, .inr ⟨rfl, ?_⟩⟩
    unfold evT; rw [e2]; show (truW S' d).map _ = _; rw [e3]; rfl
theorem ev_ite {M : Sem} {t a b : Xp} {env : Env} {S S' : Store} {r : W} (h : evE M (.ite t a b) env S = some (r, S')) : ∃ c S1, evT M t env S = some (c, S1) ∧ ((c = true ∧ evE M a env S1 = some (r, S')) ∨ (c = false ∧ evE M b env S1 = some (r, S'))) := by
  rw [evE] at h
  obtain ⟨x, S1, e1, e2⟩ := ev1 h
  rcases bool3 e2 with ⟨q, e2⟩ | ⟨q, e2⟩
  · exact ⟨true, S1, by unfold evT; rw [e1]; show (truW S1 x).map _ = _; rw [q]; rfl, .inl ⟨rfl, e2⟩⟩
  · exact ⟨false, S1, by unfold evT; rw [e1]; show (truW S1 x).map _ = _; rw [q]; rfl, .inr ⟨rfl, e2⟩⟩
theorem se_ite {t a b : Expr} {irt ira irb : Xp} (ht : SE Γ sc t irt) (ha : SE Γ sc a ira) (hb : SE Γ sc b irb) : SE Γ sc (.IfExp t a b pos) (.ite irt ira irb) := by
  refine ⟨⟨fun _ _ => rfl, fun _ _ => rfl, fun _ => rfl, fun _ _ => rfl, fun _ _ _ => rfl, fun _ _ _ _ => rfl⟩, fun C M k hc X hx => pe_plain rfl (PE.imp (pe_ifExp (ht.pt C M k hc X hx) (pe_unf (ha.pe C M k hc X hx)) (pe_unf (hb.pe C M k hc X hx))) fun σ H Q ⟨ω, env, S, d, S', eH, er, sr, ev, q⟩ => ?_), fun C M k hc X hx => ⟨fun pins s σ H Q I ⟨ω, env, S, d, S', eH, er, sr, ev, q⟩ => ?_⟩⟩
  · obtain ⟨c, S1, e1, e2⟩ := ev_ite ev
    refine ⟨ω, env, S, c, S1, eH, er, sr, e1, fun ω1 ex sr1 => ?_⟩
    rcases e2 with ⟨rfl, e2⟩ | ⟨rfl, e2⟩
    · exact iteT ⟨ω1, env, S1, d, S', rfl, er.mono ex, sr1, e2, fun u ω2 ex2 sr2 r2 => q u ω2 (.trans sr.tr ex ex2) sr2 r2⟩
    · exact iteF ⟨ω1, env, S1, d, S', rfl, er.mono ex, sr1, e2, fun u ω2 ex2 sr2 r2 => q u ω2 (.trans sr.tr ex ex2) sr2 r2⟩
  · obtain ⟨c, S1, e1, e2⟩ := evT_ite ev
    refine PyProof.Rows.isTrue_IfExp ((ht.pt C M k hc X hx).run pins s σ H (fun c' H1 => (c' = true → tT X.K M ira σ H1 Q) ∧ (c' = false → tT X.K M irb σ H1 Q)) I ⟨ω, env, S, c, S1, eH, er, sr, e1, fun ω1 ex sr1 => ?_⟩ |> fun z => wpAny_mono z (fun c' s2 ⟨H2, I2, q2⟩ => ?_) fun _ _ x => x)
    · rcases e2 with ⟨rfl, e2⟩ | ⟨rfl, e2⟩
      · exact ⟨fun _ => ⟨ω1, env, S1, d, S', rfl, er.mono ex, sr1, e2, fun ω2 ex2 sr2 => q ω2 (.trans sr.tr ex ex2) sr2⟩, (fun h => nomatch h)⟩
      · exact ⟨(fun h => nomatch h), fun _ => ⟨ω1, env, S1, d, S', rfl, er.mono ex, sr1, e2, fun ω2 ex2 sr2 => q ω2 (.trans sr.tr ex ex2) sr2⟩⟩
    · cases c' with
      | true => exact (ha.pt C M k hc X hx).run pins s2 σ H2 Q I2 (q2.1 rfl)
      | false => exact (hb.pt C M k hc X hx).run pins s2 σ H2 Q I2 (q2.2 rfl)

/-! ### subscripts -/
theorem se_sub {a b : Expr} {ira irb : Xp} (ha : SE Γ sc a ira) (hb : SE Γ sc b irb) : SE Γ sc (.Subscript a b pos) (.sub ira irb) :=
  se_of ⟨fun _ _ => rfl, fun _ _ => rfl, fun _ => rfl, fun _ _ => rfl, fun _ _ _ => rfl, fun _ _ _ _ => rfl⟩ (fun _ _ => rfl) fun C M k hc X hx => pe_plain rfl (PE.imp (pe_ix ix_sub (pe_unf (ha.pe C M k hc X hx)) (pe_unf (hb.pe C M k hc X hx)) hb.pl.ix) fun σ H Q ⟨ω, env, S, d, S', eH, er, sr, ev, q⟩ => by
    rw [evE] at ev
    obtain ⟨x, S1, y, S2, e1, e2, ev⟩ := ev2 ev
    obtain ⟨z, e3, e4⟩ := map_some ev
    cases e4
    exact two_in eH er sr e1 e2 fun v u ω' ex sr' r1 r2 => ⟨ω', _, x, y, d, rfl, sr', r1, r2, e3, fun w r3 => q w ω' ex sr' r3⟩)
/-- a part of a slice -/
structure SO (Γ : Gm) (sc : Scope) (e : Option Expr) (h : Bool) (ir : Xp) : Prop where
  po : ∀ (C : Cn) (M : Sem) (k : Nat), Hc Γ C M k → ∀ X, Hx Γ C k sc X → PO X e fun σ H Q => ∃ ω env S o S', ω.H = H ∧ ER X.K ω σ env ∧ SR X.K ω S ∧ (if h = true then intPart (evE M ir env S) else some (none, S)) = some (o, S') ∧ ∀ ω', Ext ω ω' → SR X.K ω' S' → Q o ω'.H
theorem so_none {ir : Xp} : SO Γ sc none false ir := ⟨fun C M k hc X hx => ⟨fun pins s σ H Q I ⟨ω, env, S, o, S', eH, er, sr, ev, q⟩ => by
  rw [if_neg Bool.false_ne_true] at ev
  have ev := Option.some.inj ev
  cases ev
  subst eH
  exact po_none.run pins s σ _ Q I (q ω (.refl ω) sr)⟩⟩
theorem so_some {e : Expr} {ir : Xp} (h : SE Γ sc e ir) : SO Γ sc (some e) true ir := ⟨fun C M k hc X hx => ⟨fun pins s σ H Q I ⟨ω, env, S, o, S', eH, er, sr, ev, q⟩ => by
  rw [if_pos rfl] at ev
  refine (po_some (pe_unf (h.pe C M k hc X hx))).run pins s σ _ Q I ?_
  cases e1 : evE M ir env S with
  | none => rw [e1] at ev; cases ev
  | some p =>
    obtain ⟨d, S1⟩ := p
    rw [e1] at ev
    cases d with
    | int i =>
      have ev := Option.some.inj (show some (some i, S1) = some (o, S') from ev)
      cases ev
      exact ⟨ω, env, S, .int i, _, eH, er, sr, e1, fun v ω1 ex sr1 r => by cases r; exact ⟨i, rfl, q ω1 ex sr1⟩⟩
    | _ => cases ev⟩⟩
theorem se_slc {a : Expr} {lo hi : Option Expr} {ira irl irh : Xp} {hl hh : Bool} {p2 : Pos} (ha : SE Γ sc a ira) (h1 : SO Γ sc lo hl irl) (h2 : SO Γ sc hi hh irh) : SE Γ sc (.Subscript a (.Slice lo hi none p2) pos) (.slc ira hl irl hh irh) :=
  se_of ⟨fun _ _ => rfl, fun _ _ => rfl, fun _ => rfl, fun _ _ => rfl, fun _ _ _ => rfl, fun _ _ _ _ => rfl⟩ (fun _ _ => rfl) fun C M k hc X hx => pe_plain rfl (PE.imp (pe_slice sl_slc (pe_unf (ha.pe C M k hc X hx)) (h1.po C M k hc X hx) (h2.po C M k hc X hx)) fun σ H Q ⟨ω, env, S, d, S', eH, er, sr, ev, q⟩ => by
    rw [evE] at ev
    obtain ⟨x, S1, e1, ev⟩ := ev1 ev
    cases q2 : (if hl = true then intPart (evE M irl env S1) else some (none, S1)) with
    | none => rw [q2] at ev; cases ev
    | some p =>
      obtain ⟨l, S2⟩ := p
      rw [q2] at ev
      have ev : (match (if hh = true then intPart (evE M irh env S2) else some (none, S2)) with | some (h, S3) => (slcW S3 x l h).map (fun z => (z, S3)) | none => none) = some (d, S') := ev
      cases q3 : (if hh = true then intPart (evE M irh env S2) else some (none, S2)) with
      | none => rw [q3] at ev; cases ev
      | some p =>
        obtain ⟨h, S3⟩ := p
        rw [q3] at ev
        obtain ⟨z, e3, e4⟩ := map_some (show (slcW S3 x l h).map (fun z => (z, S3)) = some (d, S') from ev)
        cases e4
        exact ⟨ω, env, S, x, S1, eH, er, sr, e1, fun v ω1 ex1 sr1 r1 => ⟨ω1, env, S1, l, S2, rfl, er.mono ex1, sr1, q2, fun ω2 ex2 sr2 => ⟨ω2, env, S2, h, S', rfl, (er.mono ex1).mono ex2, sr2, q3, fun ω3 ex3 sr3 =>
          ⟨ω3, S', x, d, rfl, sr3, (r1.mono ex2).mono ex3, e3, fun w ω4 ex4 sr4 r4 => q w ω4 (.trans sr.tr ex1 (.trans sr1.tr ex2 (.trans sr2.tr ex3 ex4))) sr4 r4⟩⟩⟩⟩)
end
end Rf

namespace Rf
open PySem PySem.Spec L2

/-! ### iterators by their items -/
section
variable {K : PySem.W.Frag}
/-- an immutable list or tuple stays -/
theorem seq_per {ω : Wd} {v : V} {d : W} {xs : List W} (r : Rp K ω v d) (h : seqOf d = some xs) : ∃ t a vs, v = .ref a ∧ Rps K ω vs xs ∧ ∀ ω', Ext ω ω' → SqB K ω'.H t a vs := by
  cases r with
  | tup h1 r1 => cases (Option.some.inj h); exact ⟨true, _, _, rfl, r1, fun ω' e => (h1.mono e).sq⟩
  | lst h1 r1 => cases (Option.some.inj h); exact ⟨false, _, _, rfl, r1, fun ω' e => (h1.mono e).sq⟩
  | ro h1 r1 => cases (Option.some.inj h); exact ⟨false, _, _, rfl, r1, fun ω' e => (h1.mono e).sq⟩
  | _ => cases h
theorem itw_list {ω : Wd} {a : Addr} {vs : List V} {xs : List W} (r : Rps K ω vs xs) (h : ∀ ω', Ext ω ω' → SqL K ω'.H a vs) : ItW K (Itl K a) ω xs where
  go := fun ω' i e hi => by
    obtain ⟨v, hv⟩ : ∃ v, vs[i]? = some v := ⟨vs[i]'(by rw [r.length]; exact hi), List.getElem?_eq_getElem _⟩
    exact ⟨vs, v, h ω' e, hv⟩
  yld := fun ω' S i x d H' e sr hd ⟨e1, e2⟩ => by
    obtain ⟨v, h1, h2⟩ := r.get hd
    have := e2 vs (h ω' e)
    rw [h1] at this
    cases this
    exact ⟨ω', e1.symm, .refl _, sr, h2.mono e⟩
  stop := fun ω' e => ⟨vs, h ω' e, Nat.le_of_eq r.length⟩
theorem itw_tup {ω : Wd} {a : Addr} {vs : List V} {xs : List W} (r : Rps K ω vs xs) (h : ∀ ω', Ext ω ω' → SqT K ω'.H a vs) : ItW K (Itt K a) ω xs where
  go := fun ω' i e hi => by
    obtain ⟨v, hv⟩ : ∃ v, vs[i]? = some v := ⟨vs[i]'(by rw [r.length]; exact hi), List.getElem?_eq_getElem _⟩
    exact ⟨vs, v, h ω' e, hv⟩
  yld := fun ω' S i x d H' e sr hd ⟨e1, e2⟩ => by
    obtain ⟨v, h1, h2⟩ := r.get hd
    have := e2 vs (h ω' e)
    rw [h1] at this
    cases this
    exact ⟨ω', e1.symm, .refl _, sr, h2.mono e⟩
  stop := fun ω' e => ⟨vs, h ω' e, Nat.le_of_eq r.length⟩
theorem itw_range {ω : Wd} (lo : Int) (n : Nat) : ItW K (Itr lo n) ω (rangeW lo n) where
  go := fun ω' i e hi => by show i < n; simpa [rangeW] using hi
  yld := fun ω' S i x d H' e sr hd ⟨e1, e2⟩ => by
    subst e2
    have : d = .int (lo + (i : Nat)) := by
      unfold rangeW at hd
      rw [List.getElem?_map] at hd
      obtain ⟨j, h1, h2⟩ := map_some hd
      have := (List.getElem?_eq_some_iff.mp h1).2
      rw [List.getElem_range] at this
      rw [← h2, ← this]
    subst this
    exact ⟨ω', e1.symm, .refl _, sr, .int _⟩
  stop := fun ω' e => by show n ≤ (rangeW lo n).length; simp [rangeW]
theorem zip2W_len : ∀ (xs ys : List W), (zip2W xs ys).length = min xs.length ys.length
  | [], _ => by simp [zip2W]
  | _ :: _, [] => by simp [zip2W]
  | x :: xs, y :: ys => by simp [zip2W, zip2W_len xs ys, Nat.succ_min_succ]
theorem zip2W_get : ∀ {xs ys : List W} {i : Nat} {d : W}, (zip2W xs ys)[i]? = some d → ∃ x y, xs[i]? = some x ∧ ys[i]? = some y ∧ d = .tup [x, y]
  | [], _, _, _, h => by simp [zip2W] at h
  | _ :: _, [], _, _, h => by simp [zip2W] at h
  | x :: xs, y :: ys, 0, d, h => by simp [zip2W] at h; exact ⟨x, y, rfl, rfl, h.symm⟩
  | x :: xs, y :: ys, i + 1, d, h => by simp only [zip2W, List.getElem?_cons_succ] at h ⊢; exact zip2W_get h
theorem zip3W_len : ∀ (xs ys zs : List W), (zip3W xs ys zs).length = min (min xs.length ys.length) zs.length
  | [], _, _ => by simp [zip3W]
  | _ :: _, [], _ => by simp [zip3W]
  | _ :: _, _ :: _, [] => by simp [zip3W]
  | x :: xs, y :: ys, z :: zs => by simp [zip3W, zip3W_len xs ys zs, Nat.succ_min_succ]
theorem zip3W_get : ∀ {xs ys zs : List W} {i : Nat} {d : W}, (zip3W xs ys zs)[i]? = some d → ∃ x y z, xs[i]? = some x ∧ ys[i]? = some y ∧ zs[i]? = some z ∧ d = .tup [x, y, z]
  | [], _, _, _, _, h => by simp [zip3W] at h
  | _ :: _, [], _, _, _, h => by simp [zip3W] at h
  | _ :: _, _ :: _, [], _, _, h => by simp [zip3W] at h
  | x :: xs, y :: ys, z :: zs, 0, d, h => by simp [zip3W] at h; exact ⟨x, y, z, rfl, rfl, rfl, h.symm⟩
  | x :: xs, y :: ys, z :: zs, i + 1, d, h => by simp only [zip3W, List.getElem?_cons_succ] at h ⊢; exact zip3W_get h
theorem enumW_len : ∀ (n : Nat) (xs : List W), (enumW n xs).length = xs.length
  | _, [] => rfl
  | n, x :: xs => by simp [enumW, enumW_len (n + 1) xs]
theorem enumW_get : ∀ {n : Nat} {xs : List W} {i : Nat} {d : W}, (enumW n xs)[i]? = some d → ∃ x, xs[i]? = some x ∧ d = .tup [.int ((n + i : Nat) : Int), x]
  | _, [], _, _, h => by simp [enumW] at h
  | n, x :: xs, 0, d, h => by simp [enumW] at h; exact ⟨x, rfl, h.symm⟩
  | n, x :: xs, i + 1, d, h => by
    simp only [enumW, List.getElem?_cons_succ] at h ⊢
    obtain ⟨y, h1, h2⟩ := enumW_get h
    exact ⟨y, h1, by rw [h2, show n + 1 + i = n + (i + 1) from by omega]⟩
theorem some_at {vs : List V} {i : Nat} (h : i < vs.length) : ∃ v, vs[i]? = some v := ⟨vs[i], List.getElem?_eq_getElem _⟩
theorem itw_zip2 {ω : Wd} {t1 t2 : Bool} {a1 a2 : Addr} {vs us : List V} {xs ys : List W} (r1 : Rps K ω vs xs) (r2 : Rps K ω us ys) (h1 : ∀ ω', Ext ω ω' → SqB K ω'.H t1 a1 vs) (h2 : ∀ ω', Ext ω ω' → SqB K ω'.H t2 a2 us) : ItW K (Jz2 K t1 a1 t2 a2) ω (zip2W xs ys) where
  go := fun ω' i e hi => by
    rw [zip2W_len, ← r1.length, ← r2.length] at hi
    obtain ⟨v, hv⟩ := some_at (vs := vs) (i := i) (by omega)
    obtain ⟨u, hu⟩ := some_at (vs := us) (i := i) (by omega)
    exact ⟨vs, us, v, u, h1 ω' e, h2 ω' e, hv, hu⟩
  yld := fun ω' S i x d H' e sr hd ⟨T, p, q, e1, e2, e3, e4, e5⟩ => by
    obtain ⟨x1, y1, g1, g2, rfl⟩ := zip2W_get hd
    obtain ⟨v, f1, f2⟩ := r1.get g1
    obtain ⟨u, f3, f4⟩ := r2.get g2
    have z1 := e4 vs (h1 ω' e); rw [f1] at z1; cases z1
    have z2 := e5 us (h2 ω' e); rw [f3] at z2; cases z2
    subst e1 e3
    exact ⟨ω'.new T (.tup [p, q]), rfl, .new_ e2, sr.new_ e2, .newT sr e2 (.cons (f2.mono e) (.cons (f4.mono e) .nil))⟩
  stop := fun ω' e => ⟨vs, us, h1 ω' e, h2 ω' e, by rw [zip2W_len, r1.length, r2.length]⟩
theorem itw_zip3 {ω : Wd} {t1 t2 t3 : Bool} {a1 a2 a3 : Addr} {vs us ws : List V} {xs ys zs : List W} (r1 : Rps K ω vs xs) (r2 : Rps K ω us ys) (r3 : Rps K ω ws zs) (h1 : ∀ ω', Ext ω ω' → SqB K ω'.H t1 a1 vs) (h2 : ∀ ω', Ext ω ω' → SqB K ω'.H t2 a2 us) (h3 : ∀ ω', Ext ω ω' → SqB K ω'.H t3 a3 ws) : ItW K (Jz3 K t1 a1 t2 a2 t3 a3) ω (zip3W xs ys zs) where
  go := fun ω' i e hi => by
    rw [zip3W_len, ← r1.length, ← r2.length, ← r3.length] at hi
    obtain ⟨v, hv⟩ := some_at (vs := vs) (i := i) (by omega)
    obtain ⟨u, hu⟩ := some_at (vs := us) (i := i) (by omega)
    obtain ⟨w, hw⟩ := some_at (vs := ws) (i := i) (by omega)
    exact ⟨vs, us, ws, v, u, w, h1 ω' e, h2 ω' e, h3 ω' e, hv, hu, hw⟩
  yld := fun ω' S i x d H' e sr hd ⟨T, p, q, r, e1, e2, e3, e4, e5, e6⟩ => by
    obtain ⟨x1, y1, z1, g1, g2, g3, rfl⟩ := zip3W_get hd
    obtain ⟨v, f1, f2⟩ := r1.get g1
    obtain ⟨u, f3, f4⟩ := r2.get g2
    obtain ⟨w, f5, f6⟩ := r3.get g3
    have z1 := e4 vs (h1 ω' e); rw [f1] at z1; cases z1
    have z2 := e5 us (h2 ω' e); rw [f3] at z2; cases z2
    have z3 := e6 ws (h3 ω' e); rw [f5] at z3; cases z3
    subst e1 e3
    exact ⟨ω'.new T (.tup [p, q, r]), rfl, .new_ e2, sr.new_ e2, .newT sr e2 (.cons (f2.mono e) (.cons (f4.mono e) (.cons (f6.mono e) .nil)))⟩
  stop := fun ω' e => ⟨vs, us, ws, h1 ω' e, h2 ω' e, h3 ω' e, by rw [zip3W_len, r1.length, r2.length, r3.length]⟩
theorem itw_enum {ω : Wd} {t : Bool} {a : Addr} {vs : List V} {xs : List W} (r1 : Rps K ω vs xs) (h1 : ∀ ω', Ext ω ω' → SqB K ω'.H t a vs) : ItW K (Jen K t a) ω (enumW 0 xs) where
  go := fun ω' i e hi => by
    rw [enumW_len, ← r1.length] at hi
    obtain ⟨v, hv⟩ := some_at (vs := vs) (i := i) (by omega)
    exact ⟨vs, v, h1 ω' e, hv⟩
  yld := fun ω' S i x d H' e sr hd ⟨T, p, e1, e2, e3, e4⟩ => by
    obtain ⟨x1, g1, rfl⟩ := enumW_get hd
    obtain ⟨v, f1, f2⟩ := r1.get g1
    have z1 := e4 vs (h1 ω' e); rw [f1] at z1; cases z1
    subst e1 e3
    exact ⟨ω'.new T (.tup [.int (i : Nat), p]), rfl, .new_ e2, sr.new_ e2, .newT sr e2 (.cons (by rw [show 0 + i = i from Nat.zero_add i]; exact .int _) (.cons (f2.mono e) .nil))⟩
  stop := fun ω' e => ⟨vs, h1 ω' e, by rw [enumW_len, r1.length]⟩
end

/-! ### the iterables of the text -/
section
variable {Γ : Gm} {sc : Scope} {pos p : Pos} {tg : Expr}
theorem ses_one {a : Expr} {ir : Xp} (h : SE Γ sc a ir) : SEs Γ sc [a] (.cons ir .nil) := ses_cons h ses_nil
theorem evEs_mk {M : Sem} {a : Xp} {r : Xps} {env : Env} {S S1 S2 : Store} {x : W} {xs : List W} (h1 : evE M a env S = some (x, S1)) (h2 : evEs M r env S1 = some (xs, S2)) : evEs M (.cons a r) env S = some (x :: xs, S2) := by
  rw [evEs, h1]; show (match evEs M r env S1 with | some (xs, S2) => some (x :: xs, S2) | none => none) = _; rw [h2]
def glB (sc : Scope) (x : Str) : Bool := match sc.names.lookup x with
  | some .globalImplicit => true
  | _ => false
theorem gl_of {x : Str} (h : glB sc x = true) : sc.names.lookup x = some .globalImplicit := by
  unfold glB at h
  split at h
  · assumption
  · cases h
theorem Hx.gl {C : Cn} {k : Nat} {X : Cx} {x : Str} (hx : Hx Γ C k sc X) (h : glB sc x = true) : Gl X x := by
  show X.env.scope.names.lookup x = _
  rw [hx.scp]; exact gl_of h
theorem Hc.no {C : Cn} {M : Sem} {k : Nat} (hc : Hc Γ C M k) {X : Cx} (hx : Hx Γ C k sc X) {x : Str} (h : x ∈ bltNames) : X.mg x = none := by rw [hx.mg]; exact hc.free x h
theorem si_seq {e : Expr} {ir : Xp} (h : SE Γ sc e ir) : SI Γ sc tg e (.seq ir) := ⟨h.pl.fold, fun C M k hc X hx => ⟨fun pins s σ H R I ⟨ω, env, S, xs, S', eH, er, sr, ev, q⟩ => by
  rw [evI] at ev
  obtain ⟨x, S1, e1, e2⟩ := ev1 ev
  obtain ⟨ys, e3, e4⟩ := map_some e2
  cases e4
  refine thn ((pe_unf (h.pe C M k hc X hx)).run pins s σ H (fun v H1 => ∃ t a, v = .ref a ∧ (∃ vs, SqB X.K H1 t a vs) ∧ (t = false → R (Itl X.K a) H1) ∧ (t = true → R (Itt X.K a) H1)) I ⟨ω, env, S, x, _, eH, er, sr, e1, fun v ω1 ex sr1 r1 => ?_⟩) fun v s1 ⟨x, H1, I1, r1, q1⟩ => ?_
  · obtain ⟨t, a, vs, rfl, r2, h2⟩ := seq_per r1 e3
    refine ⟨t, a, rfl, ⟨vs, h2 ω1 (.refl _)⟩, fun et => ?_, fun et => ?_⟩
    · subst et; exact q _ ω1 ex sr1 (itw_list r2 h2)
    · subst et; exact q _ ω1 ex sr1 (itw_tup r2 h2)
  · obtain ⟨t, a, rfl, ⟨vs, hq⟩, q2, q3⟩ := q1
    cases r1
    cases t with
    | false =>
      obtain ⟨its, rv, p, hz⟩ := I1.list (show SqL X.K H1 a vs from hq)
      refine wpAny_pyIter_list p.isList ?_
      refine ⟨s1.heap.objs.size, [s1.heap.objs.size], _, _, H1, rfl, I1.kept (t' := s1.toks) fun b o e => Heap.get?_push_of_some _ e, turn_list a _, ⟨_, Heap.get?_push_size _ rfl, rfl, rfl⟩, fun b hb => ?_, q2 rfl⟩
      have e : b = s1.heap.objs.size := by simpa using hb
      subst e
      exact I1.fpOk (Nat.le_refl _) (I1.hok.fresh (Nat.le_refl _))
    | true =>
      obtain ⟨its, rv, p, hz⟩ := I1.tuple (show SqT X.K H1 a vs from hq)
      refine wpAny_pyIter_tuple (show s1.heap.IsTuple a its.toArray from p) ?_
      refine ⟨s1.heap.objs.size, [s1.heap.objs.size], _, _, H1, rfl, I1.kept (t' := s1.toks) fun b o e => Heap.get?_push_of_some _ e, turn_tuple a _, ⟨_, Heap.get?_push_size _ rfl, rfl, rfl⟩, fun b hb => ?_, q3 rfl⟩
      have e : b = s1.heap.objs.size := by simpa using hb
      subst e
      exact I1.fpOk (Nat.le_refl _) (I1.hok.fresh (Nat.le_refl _))⟩⟩
theorem si_range1 {a : Expr} {ir : Xp} (h : SE Γ sc a ir) (hg : glB sc "range" = true) : SI Γ sc tg (.Call (.Name "range" p) [a] [] pos) (.range1 ir) := ⟨fun _ _ => rfl, fun C M k hc X hx => PI.imp (pi_range1 (hx.gl hg) (hc.no hx (by decide)) ((ses_one h).pa C M k hc X hx) (h.pl.star [] _)) fun σ H R ⟨ω, env, S, xs, S', eH, er, sr, ev, q⟩ => by
  rw [evI] at ev
  cases e1 : evE M ir env S with
  | none => rw [e1] at ev; cases ev
  | some z =>
    obtain ⟨x, S1⟩ := z
    rw [e1] at ev
    cases x with
    | int j =>
      have ev : (if -(2 ^ 62) ≤ j ∧ j < 2 ^ 62 then some (rangeW 0 j.toNat, S1) else none) = some (xs, S') := ev
      by_cases hj : -(2 ^ 62) ≤ j ∧ j < 2 ^ 62
      · rw [if_pos hj] at ev
        cases (Option.some.inj ev)
        refine ⟨ω, env, S, [.int j], _, eH, er, sr, evEs_mk e1 (by rw [evEs]), fun vs ω1 ex sr1 r1 => ?_⟩
        obtain ⟨v, rfl, r2⟩ := one_rps r1
        cases r2
        exact ⟨j, rfl, hj.1, hj.2, q _ ω1 ex sr1 (itw_range 0 _)⟩
      · rw [if_neg hj] at ev; cases ev
    | _ => cases ev⟩
theorem si_range2 {a b : Expr} {ir irb : Xp} (h : SE Γ sc a ir) (hb : SE Γ sc b irb) (hg : glB sc "range" = true) : SI Γ sc tg (.Call (.Name "range" p) [a, b] [] pos) (.range2 ir irb) := ⟨fun _ _ => rfl, fun C M k hc X hx => PI.imp (pi_range2 (hx.gl hg) (hc.no hx (by decide)) ((ses_cons h (ses_one hb)).pa C M k hc X hx) ((h.pl.star [b] _).trans (by rw [hb.pl.star [] _]; rfl)) (hb.pl.star [] _)) fun σ H R ⟨ω, env, S, xs, S', eH, er, sr, ev, q⟩ => by
  rw [evI] at ev
  cases e1 : evE M ir env S with
  | none => rw [e1] at ev; cases ev
  | some z =>
    obtain ⟨x, S1⟩ := z
    rw [e1] at ev
    cases x with
    | int i =>
      have ev : (match evE M irb env S1 with | some (.int j, S2) => if -(2 ^ 62) ≤ i ∧ i < 2 ^ 62 ∧ -(2 ^ 62) ≤ j ∧ j < 2 ^ 62 then some (rangeW i (j - i).toNat, S2) else none | _ => none) = some (xs, S') := ev
      cases e2 : evE M irb env S1 with
      | none => rw [e2] at ev; cases ev
      | some z =>
        obtain ⟨y, S2⟩ := z
        rw [e2] at ev
        cases y with
        | int j =>
          have ev : (if -(2 ^ 62) ≤ i ∧ i < 2 ^ 62 ∧ -(2 ^ 62) ≤ j ∧ j < 2 ^ 62 then some (rangeW i (j - i).toNat, S2) else none) = some (xs, S') := ev
          by_cases hj : -(2 ^ 62) ≤ i ∧ i < 2 ^ 62 ∧ -(2 ^ 62) ≤ j ∧ j < 2 ^ 62
          · rw [if_pos hj] at ev
            cases (Option.some.inj ev)
            refine ⟨ω, env, S, [.int i, .int j], _, eH, er, sr, evEs_mk e1 (evEs_mk e2 (by rw [evEs])), fun vs ω1 ex sr1 r1 => ?_⟩
            obtain ⟨v, u, rfl, r2, r3⟩ := two_rps r1
            cases r2
            cases r3
            exact ⟨i, j, rfl, hj, q _ ω1 ex sr1 (itw_range i _)⟩
          · rw [if_neg hj] at ev; cases ev
        | _ => cases ev
    | _ => cases ev⟩
theorem star2 {a b : Expr} {ira irb : Xp} (h : SE Γ sc a ira) (hb : SE Γ sc b irb) (pos : Pos) (env : PySem.Env) : starEach [a, b] env = (false, eval a env) :: starEach [b] env ∧ (backTo pos (starEach [b] env)).any (·.1) = false := ⟨h.pl.star [b] _, by rw [hb.pl.star [] _]; rfl⟩
theorem mem2 {n b : Nat} (h : b ∈ [n + 1, n]) : n ≤ b := by simp at h; omega
theorem mem5 {n b : Nat} (h : b ∈ [n + 4, n + 2, n + 3, n, n + 1]) : n ≤ b := by simp at h; omega
theorem mem6 {n b : Nat} (h : b ∈ [n + 5, n + 3, n + 4, n, n + 1, n + 2]) : n ≤ b := by simp at h; omega
theorem ne_nat {n m : Nat} (h : n ≠ m) : (show Addr from n) ≠ (show Addr from m) := h
theorem ap2 (n : Nat) : Ap2 (n + 4) (n + 2) (n + 3) n (n + 1) := by
  have h : (n + 2 ≠ n + 4 ∧ n + 3 ≠ n + 4 ∧ n + 2 ≠ n + 3 ∧ n + 2 ≠ n ∧ n + 2 ≠ n + 1) ∧ n + 4 ≠ n ∧ n + 4 ≠ n + 1 ∧ n + 3 ≠ n ∧ n + 3 ≠ n + 1 ∧ n ≠ n + 1 := by omega
  exact ⟨h.1.1, h.1.2.1, h.1.2.2.1, h.1.2.2.2.1, h.1.2.2.2.2, h.2.1, h.2.2.1, h.2.2.2.1, h.2.2.2.2.1, h.2.2.2.2.2⟩
theorem ap3 (n : Nat) : Ap3 (n + 5) (n + 3) (n + 4) n (n + 1) (n + 2) := by
  have h : (n + 3 ≠ n + 5 ∧ n + 4 ≠ n + 5 ∧ n + 3 ≠ n + 4 ∧ n + 3 ≠ n ∧ n + 3 ≠ n + 1 ∧ n + 3 ≠ n + 2) ∧ (n + 5 ≠ n ∧ n + 5 ≠ n + 1 ∧ n + 5 ≠ n + 2) ∧ (n + 4 ≠ n ∧ n + 4 ≠ n + 1 ∧ n + 4 ≠ n + 2) ∧ n ≠ n + 1 ∧ n ≠ n + 2 ∧ n + 1 ≠ n + 2 := by omega
  obtain ⟨⟨a, b, c, d, e, f⟩, ⟨g, i, j⟩, ⟨k, l, m⟩, o, p, q⟩ := h
  exact ⟨a, b, c, d, e, f, g, i, j, k, l, m, o, p, q⟩
theorem si_enum {a : Expr} {ir : Xp} {elts : List Expr} {kk : Nat} {tpos : Pos} (h : SE Γ sc a ir) (hg : glB sc "enumerate" = true) : SI Γ sc (.Tuple elts kk tpos) (.Call (.Name "enumerate" p) [a] [] pos) (.enum ir) := ⟨fun _ _ => rfl, fun C M k hc X hx => ⟨fun pins s σ H R I ⟨ω, env, S, xs, S', eH, er, sr, ev, q⟩ => by
  rw [evI] at ev
  obtain ⟨x, S1, e1, e2⟩ := ev1 ev
  obtain ⟨ys, e3, e4⟩ := map_some e2
  cases e4
  refine PyProof.Rows.Call_ (ld_blt I (hx.gl hg) (hc.no hx (by decide)) PyProof.Rows.boot_enumerate (PyProof.Rows.callWith_type1 (thn (((ses_one h).pa C M k hc X hx).run pos pins s σ H (fun vs H1 => ∃ t a, vs = [.ref a] ∧ (∃ us, SqB X.K H1 t a us) ∧ R (Jen X.K t a) H1) I ⟨ω, env, S, [x], _, eH, er, sr, evEs_mk e1 (by rw [evEs]), fun vs ω1 ex sr1 r1 => ?_⟩) fun us s1 ⟨vs, H1, I1, r1, q1⟩ => ?_) (h.pl.star [] _) rfl))
  · obtain ⟨v, rfl, r2⟩ := one_rps r1
    obtain ⟨t, a, vs, rfl, r3, h2⟩ := seq_per r2 e3
    exact ⟨t, a, rfl, ⟨vs, h2 ω1 (.refl _)⟩, q _ ω1 ex sr1 (itw_enum r3 h2)⟩
  · obtain ⟨t, a, rfl, ⟨vs, hq⟩, q2⟩ := q1
    cases r1 with
    | cons r rr =>
      cases rr
      cases r
      obtain ⟨its, rv, hp⟩ := seq_its I1 hq
      refine enum_begins1 (begins_seq t a its.toArray) hp fun h' he hit hsz hk => wpAny_pyIter_enum he ?_
      have I2 : Inv X pins σ H1 { s1 with heap := h' } := I1.kept (t' := s1.toks) hk
      refine ⟨s1.heap.objs.size + 1, [s1.heap.objs.size + 1, s1.heap.objs.size], _, _, H1, rfl, I2, turn_en (Nat.succ_ne_self _), ⟨⟨_, he⟩, iter_new hit⟩, fun b hb => ?_, q2⟩
      have hle : s1.heap.objs.size ≤ b := mem2 hb
      exact I1.fpOk hle (I1.hok.fresh hle)⟩⟩
theorem si_zip2 {a b : Expr} {ira irb : Xp} {elts : List Expr} {kk : Nat} {tpos : Pos} (h : SE Γ sc a ira) (hb : SE Γ sc b irb) (hg : glB sc "zip" = true) : SI Γ sc (.Tuple elts kk tpos) (.Call (.Name "zip" p) [a, b] [] pos) (.zip2 ira irb) := ⟨fun _ _ => rfl, fun C M k hc X hx => ⟨fun pins s σ H R I ⟨ω, env, S, xs, S', eH, er, sr, ev, q⟩ => by
  rw [evI] at ev
  obtain ⟨x, S1, y, S2, e1, e2, ev⟩ := ev2 ev
  obtain ⟨s1x, hs1⟩ : ∃ l, seqOf x = some l := by cases g : seqOf x with | none => rw [g] at ev; cases ev | some l => exact ⟨l, rfl⟩
  obtain ⟨s2x, hs2⟩ : ∃ l, seqOf y = some l := by cases g : seqOf y with | none => rw [hs1, g] at ev; cases ev | some l => exact ⟨l, rfl⟩
  rw [hs1, hs2] at ev
  cases (Option.some.inj ev)
  obtain ⟨st1, st2⟩ := star2 h hb pos X.env
  refine PyProof.Rows.Call_ (ld_blt I (hx.gl hg) (hc.no hx (by decide)) PyProof.Rows.boot_zip (PyProof.Rows.callWith_type1 (thn (((ses_cons h (ses_one hb)).pa C M k hc X hx).run pos pins s σ H (fun vs H1 => ∃ t1 a1 t2 a2, vs = [.ref a1, .ref a2] ∧ (∃ us, SqB X.K H1 t1 a1 us) ∧ (∃ us, SqB X.K H1 t2 a2 us) ∧ R (Jz2 X.K t1 a1 t2 a2) H1) I ⟨ω, env, S, [x, y], _, eH, er, sr, evEs_mk e1 (evEs_mk e2 (by rw [evEs])), fun vs ω1 ex sr1 r1 => ?_⟩) fun us s1 ⟨vs, H1, I1, r1, q1⟩ => ?_) st1 st2))
  · obtain ⟨v, u, rfl, r2, r3⟩ := two_rps r1
    obtain ⟨t1, a1, vs1, rfl, r4, h2⟩ := seq_per r2 hs1
    obtain ⟨t2, a2, vs2, rfl, r5, h3⟩ := seq_per r3 hs2
    exact ⟨t1, a1, t2, a2, rfl, ⟨vs1, h2 ω1 (.refl _)⟩, ⟨vs2, h3 ω1 (.refl _)⟩, q _ ω1 ex sr1 (itw_zip2 r4 r5 h2 h3)⟩
  · obtain ⟨t1, a1, t2, a2, rfl, ⟨vs1, hq1⟩, ⟨vs2, hq2⟩, q2⟩ := q1
    cases r1 with
    | cons r rr =>
      cases rr with
      | cons r' rr =>
        cases rr
        cases r
        cases r'
        obtain ⟨its1, rv1, hp1⟩ := seq_its I1 hq1
        obtain ⟨its2, rv2, hp2⟩ := seq_its I1 hq2
        refine zip_begins2 (begins_seq t1 a1 its1.toArray) (begins_seq t2 a2 its2.toArray) hp1 hp2 fun h' hz hTI hTO g1 g2 hsz hk => wpAny_pyIter_zip hz ?_
        have I2 : Inv X pins σ H1 { s1 with heap := h' } := I1.kept (t' := s1.toks) hk
        refine ⟨s1.heap.objs.size + 4, [s1.heap.objs.size + 4, s1.heap.objs.size + 2, s1.heap.objs.size + 3, s1.heap.objs.size, s1.heap.objs.size + 1], _, _, H1, rfl, I2, turn_zip2 (ap2 _), ⟨hz, hTI, ⟨_, _, hTO⟩, iter_new g1, iter_new g2⟩, fun b hb => ?_, q2⟩
        have hle : s1.heap.objs.size ≤ b := mem5 hb
        exact I1.fpOk hle (I1.hok.fresh hle)⟩⟩
theorem three_rps {K : PySem.W.Frag} {ω : Wd} {xs : List V} {d e f : W} (h : Rps K ω xs [d, e, f]) : ∃ x y z, xs = [x, y, z] ∧ Rp K ω x d ∧ Rp K ω y e ∧ Rp K ω z f := by
  cases h with
  | cons a r => cases r with
    | cons b r => cases r with
      | cons c r => cases r; exact ⟨_, _, _, rfl, a, b, c⟩
theorem si_zip3 {a b c : Expr} {ira irb irc : Xp} {elts : List Expr} {kk : Nat} {tpos : Pos} (h : SE Γ sc a ira) (hb : SE Γ sc b irb) (hcc : SE Γ sc c irc) (hg : glB sc "zip" = true) : SI Γ sc (.Tuple elts kk tpos) (.Call (.Name "zip" p) [a, b, c] [] pos) (.zip3 ira irb irc) := ⟨fun _ _ => rfl, fun C M k hc X hx => ⟨fun pins s σ H R I ⟨ω, env, S, xs, S', eH, er, sr, ev, q⟩ => by
  rw [evI] at ev
  obtain ⟨x, S1, y, S2, e1, e2, ev⟩ := ev2 ev
  obtain ⟨z, S3, e3, ev⟩ := ev1 ev
  obtain ⟨s1x, hs1⟩ : ∃ l, seqOf x = some l := by cases g : seqOf x with | none => rw [g] at ev; cases ev | some l => exact ⟨l, rfl⟩
  obtain ⟨s2x, hs2⟩ : ∃ l, seqOf y = some l := by cases g : seqOf y with | none => rw [hs1, g] at ev; cases ev | some l => exact ⟨l, rfl⟩
  obtain ⟨s3x, hs3⟩ : ∃ l, seqOf z = some l := by cases g : seqOf z with | none => rw [hs1, hs2, g] at ev; cases ev | some l => exact ⟨l, rfl⟩
  rw [hs1, hs2, hs3] at ev
  cases (Option.some.inj ev)
  have st1 := h.pl.star [b, c] X.env
  have st2 : (backTo pos (starEach [b, c] X.env)).any (·.1) = false := by rw [hb.pl.star [c] _, hcc.pl.star [] _]; rfl
  refine PyProof.Rows.Call_ (ld_blt I (hx.gl hg) (hc.no hx (by decide)) PyProof.Rows.boot_zip (PyProof.Rows.callWith_type1 (thn (((ses_cons h (ses_cons hb (ses_one hcc))).pa C M k hc X hx).run pos pins s σ H (fun vs H1 => ∃ t1 a1 t2 a2 t3 a3, vs = [.ref a1, .ref a2, .ref a3] ∧ (∃ us, SqB X.K H1 t1 a1 us) ∧ (∃ us, SqB X.K H1 t2 a2 us) ∧ (∃ us, SqB X.K H1 t3 a3 us) ∧ R (Jz3 X.K t1 a1 t2 a2 t3 a3) H1) I ⟨ω, env, S, [x, y, z], _, eH, er, sr, evEs_mk e1 (evEs_mk e2 (evEs_mk e3 (by rw [evEs]))), fun vs ω1 ex sr1 r1 => ?_⟩) fun us s1 ⟨vs, H1, I1, r1, q1⟩ => ?_) st1 st2))
  · obtain ⟨v, u, w, rfl, r2, r3, r33⟩ := three_rps r1
    obtain ⟨t1, a1, vs1, rfl, r4, h2⟩ := seq_per r2 hs1
    obtain ⟨t2, a2, vs2, rfl, r5, h3⟩ := seq_per r3 hs2
    obtain ⟨t3, a3, vs3, rfl, r6, h4⟩ := seq_per r33 hs3
    exact ⟨t1, a1, t2, a2, t3, a3, rfl, ⟨vs1, h2 ω1 (.refl _)⟩, ⟨vs2, h3 ω1 (.refl _)⟩, ⟨vs3, h4 ω1 (.refl _)⟩, q _ ω1 ex sr1 (itw_zip3 r4 r5 r6 h2 h3 h4)⟩
  · obtain ⟨t1, a1, t2, a2, t3, a3, rfl, ⟨vs1, hq1⟩, ⟨vs2, hq2⟩, ⟨vs3, hq3⟩, q2⟩ := q1
    cases r1 with
    | cons r rr =>
      cases rr with
      | cons r' rr =>
        cases rr with
        | cons r'' rr =>
          cases rr
          cases r
          cases r'
          cases r''
          obtain ⟨its1, rv1, hp1⟩ := seq_its I1 hq1
          obtain ⟨its2, rv2, hp2⟩ := seq_its I1 hq2
          obtain ⟨its3, rv3, hp3⟩ := seq_its I1 hq3
          refine zip_begins3 (begins_seq t1 a1 its1.toArray) (begins_seq t2 a2 its2.toArray) (begins_seq t3 a3 its3.toArray) hp1 hp2 hp3 fun h' hz hTI hTO g1 g2 g3 hsz hk => wpAny_pyIter_zip hz ?_
          have I2 : Inv X pins σ H1 { s1 with heap := h' } := I1.kept (t' := s1.toks) hk
          refine ⟨s1.heap.objs.size + 5, [s1.heap.objs.size + 5, s1.heap.objs.size + 3, s1.heap.objs.size + 4, s1.heap.objs.size, s1.heap.objs.size + 1, s1.heap.objs.size + 2], _, _, H1, rfl, I2, turn_zip3 (ap3 _), ⟨hz, hTI, ⟨_, _, _, hTO⟩, iter_new g1, iter_new g2, iter_new g3⟩, fun b hb => ?_, q2⟩
          have hle : s1.heap.objs.size ≤ b := mem6 hb
          exact I1.fpOk hle (I1.hok.fresh hle)⟩⟩
end
end Rf

namespace Rf
open PySem PySem.Spec L2

/-! ### states that agree but for some names -/
theorem Ag.refl (l : List Nat) (σ : L2.St) : Ag l σ σ := ⟨rfl, fun _ _ => rfl⟩
theorem Ag.trans {l l' : List Nat} {σ σ1 σ2 : L2.St} (h : Ag l σ σ1) (h' : Ag l' σ1 σ2) : Ag (l ++ l') σ σ2 :=
  ⟨h'.1.trans h.1, fun j hj => (h'.2 j fun z => hj (List.mem_append_right _ z)).trans (h.2 j fun z => hj (List.mem_append_left _ z))⟩
theorem Ag.set {σ : L2.St} {i : Nat} {x : Option V} : Ag [i] σ (σ.set i x) := ⟨List.length_set .., fun j hj => by
  rw [List.getElem?_set_ne]; intro z; exact hj (by rw [z]; exact List.mem_singleton.mpr rfl)⟩
theorem wipe_at (σ : L2.St) : ∀ (vs : List Nat) (j : Nat), (wipe σ vs)[j]? = if j ∈ vs then (σ[j]?).map fun _ => none else σ[j]?
  | [], j => by simp [wipe]
  | v :: vs, j => by
    show ((wipe σ vs).set v none)[j]? = _
    rw [List.getElem?_set]
    by_cases e : v = j
    · subst e
      rw [if_pos rfl, if_pos List.mem_cons_self, wipe_length]
      by_cases h : v < σ.length
      · rw [if_pos h, List.getElem?_eq_getElem h]; rfl
      · rw [if_neg h, List.getElem?_eq_none (by omega)]; rfl
    · rw [if_neg e, wipe_at σ vs j]
      by_cases h : j ∈ vs
      · rw [if_pos h, if_pos (List.mem_cons_of_mem _ h)]
      · rw [if_neg h, if_neg fun z => by rcases List.mem_cons.mp z with z | z; exact e z.symm; exact h z]
theorem Ag.wipe {l vs : List Nat} {σ σ' : L2.St} (h : Ag l (wipe σ vs) σ') (hs : ∀ i ∈ l, i ∈ vs) : L2.wipe σ' vs = L2.wipe σ vs := by
  apply List.ext_getElem?
  intro j
  rw [wipe_at, wipe_at]
  by_cases hj : j ∈ vs
  · rw [if_pos hj, if_pos hj]
    have e : σ'.length = σ.length := h.1.trans (wipe_length _ _)
    by_cases hl : j < σ.length
    · rw [List.getElem?_eq_getElem hl, List.getElem?_eq_getElem (by omega)]; rfl
    · rw [List.getElem?_eq_none (by omega), List.getElem?_eq_none (by omega)]
  · rw [if_neg hj, if_neg hj, h.2 j fun z => hj (hs j z), wipe_at, if_neg hj]
theorem ER.wipe {K : PySem.W.Frag} {ω : Wd} {σ : L2.St} {env : Env} (h : ER K ω σ env) : ∀ vs : List Nat, ER K ω (L2.wipe σ vs) (wipeE env vs)
  | [] => h
  | v :: vs => by
    have ih := ER.wipe h vs
    refine ⟨by show ((wipeE env vs).set v none).length = ((L2.wipe σ vs).set v none).length; rw [List.length_set, List.length_set, ih.len], fun i w hi => ?_⟩
    have hi : ((wipeE env vs).set v none)[i]? = some (some w) := hi
    show ∃ x, ((L2.wipe σ vs).set v none)[i]? = _ ∧ _
    rw [List.getElem?_set] at hi
    by_cases e : v = i
    · rw [if_pos e] at hi; split at hi <;> cases hi
    · rw [if_neg e] at hi
      rw [List.getElem?_set_ne e]
      exact ih.at_ i w hi

/-! ### targets -/
section
variable {Γ : Gm} {sc : Scope} {pos p : Pos}
def locB (Γ : Gm) (sc : Scope) (x : Str) : Bool := match sc.names.lookup x with
  | some .local => true
  | some .cell => decide (x ∈ Γ.fl)
  | _ => false
theorem sg_name {x : Str} {i : Nat} (h1 : Γ.N[i]? = some x) (h2 : locB Γ sc x = true) : SG Γ sc (.Name x pos) (.name i) := ⟨fun _ _ => rfl, fun C M k hc X hx => by
  have hl : Loc X.env.scope x ∧ (X.fn x = true ∨ X.env.scope.names.lookup x = some .local) := by
    rw [hx.scp]
    unfold locB at h2
    split at h2
    · rename_i q; exact ⟨.inl q, .inr q⟩
    · rename_i q; exact ⟨.inr q, .inl (hx.fn x (by simpa using h2))⟩
    · cases h2
  refine PG.imp (pg_name (i := i) (by rw [hx.N]; exact hc.nd) (by rw [hx.N]; exact h1) hl.1 hl.2) fun v σ H Q ⟨ω, env, S, d, env', S', eH, er, sr, r, ev, q⟩ => ?_
  rw [asgT] at ev
  split at ev
  · rename_i hi
    cases (Option.some.inj ev)
    subst eH
    exact q _ ω (.refl ω) sr (er.set r) Ag.set
  · cases ev⟩
theorem asgTs_nil {M : Sem} {ds : List W} {env : Env} {S : Store} {q : Env × Store} (h : asgTs M .nil ds env S = some q) : ds = [] ∧ q = (env, S) := by
  cases ds with
  | nil => rw [asgTs] at h; exact ⟨rfl, (Option.some.inj h).symm⟩
  | cons _ _ => rw [asgTs] at h; cases h; intro z; cases z
theorem sgs_nil : SGs Γ sc [] .nil := ⟨fun _ => rfl, fun _ => rfl, fun M ds env S r h => by
  rw [(asgTs_nil h).1]; rfl, fun C M k hc X hx => PGs.imp pgs_nil fun vs σ H Q ⟨ω, env, S, ds, env', S', eH, er, sr, r, ev, q⟩ => by
  obtain ⟨rfl, e⟩ := asgTs_nil ev
  cases e
  cases r
  subst eH
  exact ⟨rfl, q _ ω (.refl ω) sr er (Ag.refl _ _)⟩⟩
theorem asgTs_cons {M : Sem} {t : Xt} {r : Xts} {ds : List W} {env : Env} {S : Store} {q : Env × Store} (h : asgTs M (.cons t r) ds env S = some q) : ∃ d es env1 S1, ds = d :: es ∧ asgT M t d env S = some (env1, S1) ∧ asgTs M r es env1 S1 = some q := by
  cases ds with
  | nil => rw [asgTs] at h; cases h
  | cons d es =>
    rw [asgTs] at h
    cases e : asgT M t d env S with
    | none => rw [e] at h; cases h
    | some p => obtain ⟨env1, S1⟩ := p; rw [e] at h; exact ⟨d, es, env1, S1, rfl, e, h⟩
theorem sgs_cons {t : Expr} {ts : List Expr} {ir : Xt} {irs : Xts} (h : SG Γ sc t ir) (hs : SGs Γ sc ts irs) : SGs Γ sc (t :: ts) (.cons ir irs) := ⟨fun env => by rw [h.star, hs.star]; rfl, fun env => by rw [h.len, hs.len]; rfl, fun M ds env S r e => by
  obtain ⟨d, es, env1, S1, rfl, _, e2⟩ := asgTs_cons e
  rw [List.length_cons, List.length_cons, hs.ln M es env1 S1 r e2], fun C M k hc X hx => PGs.imp (pgs_cons (h.pg C M k hc X hx) (hs.pg C M k hc X hx) (h.cons _ _)) fun vs σ H Q ⟨ω, env, S, ds, env', S', eH, er, sr, r, ev, q⟩ => by
  obtain ⟨d, es, env1, S1, rfl, e1, e2⟩ := asgTs_cons ev
  cases r with
  | cons r rr =>
    refine ⟨_, _, rfl, ω, env, S, d, env1, S1, eH, er, sr, r, e1, fun σ1 ω1 ex1 sr1 er1 ag1 => ?_⟩
    exact ⟨ω1, env1, S1, es, env', S', rfl, er1, sr1, rr.mono ex1, e2, fun σ2 ω2 ex2 sr2 er2 ag2 => q σ2 ω2 (.trans sr.tr ex1 ex2) sr2 er2 (ag1.trans ag2)⟩⟩
theorem sg_tup {ts : List Expr} {kk : Nat} {irs : Xts} (hs : SGs Γ sc ts irs) : SG Γ sc (.Tuple ts kk pos) (.tup irs) := ⟨fun _ _ => rfl, fun C M k hc X hx => PG.imp (pg_tup hx.calm (hs.pg C M k hc X hx) (hs.len _) (hs.star _)) fun v σ H Q ⟨ω, env, S, d, env', S', eH, er, sr, r, ev, q⟩ => by
  cases r with
  | @tup a vs ds h1 r1 =>
    rw [asgT] at ev
    have ev : asgTs M irs ds env S = some (env', S') := ev
    refine ⟨a, vs, rfl, by rw [← eH]; exact h1.sq, by rw [r1.length]; exact hs.ln _ _ _ _ _ ev, ω, env, S, ds, env', S', eH, er, sr, r1, ev, fun σ' ω' ex sr' er' ag => q σ' ω' ex sr' er' ag⟩
  | _ => rw [asgT] at ev; cases ev; intro _ z; cases z⟩
theorem sg_sub {o i : Expr} {iro iri : Xp} (ho : SE Γ sc o iro) (hi : SE Γ sc i iri)
    (ha : ∀ env v, assign (.Subscript o i pos) env v = (do
      let ov ← holding [v] (eval o env)
      let iv ← holding [v, ov] (eval i env)
      standAt pos
      holding [v, ov, iv] (setItem ov iv v)
      release [v, ov, iv] [])) : SG Γ sc (.Subscript o i pos) (.sub iro iri) := ⟨fun _ _ => rfl, fun C M k hc X hx => PG.imp (pg_sub (pe_unf (ho.pe C M k hc X hx)) (pe_unf (hi.pe C M k hc X hx)) set_w (ha _)) fun v σ H Q ⟨ω, env, S, d, env', S', eH, er, sr, r, ev, q⟩ => by
  rw [asgT] at ev
  obtain ⟨x, S1, y, S2, e1, e2, ev⟩ := ev2 ev
  obtain ⟨S3, e3, e4⟩ := map_some ev
  cases e4
  exact ⟨ω, env, S, x, S1, eH, er, sr, e1, fun u ω1 ex1 sr1 r1 => ⟨ω1, env, S1, y, S2, rfl, er.mono ex1, sr1, e2, fun w ω2 ex2 sr2 r2 => ⟨ω2, S2, x, y, d, _, rfl, sr2, r1.mono ex2, r2, (r.mono ex1).mono ex2, e3, fun ω3 ex3 sr3 =>
    q σ ω3 (.trans sr.tr ex1 (.trans sr1.tr ex2 ex3)) sr3 (((er.mono ex1).mono ex2).mono ex3) (Ag.refl _ _)⟩⟩⟩⟩
end

/-! ### a list under construction -/
section
variable {K : PySem.W.Frag} {ω ω1 : Wd} {S : Store} {D : Addr} {us vs : List V}
theorem LstAt.again {a : Addr} {xs : List V} (ho : ω.o D) (h : LstAt ω a xs) : LstAt (ω.newL D vs) a xs := by
  have ne : a ≠ D := fun z => h.2 (by rw [z]; exact ho)
  refine ⟨by show upd ω.H D _ a = _; unfold upd; rw [if_neg ne]; exact h.1, fun z => ?_⟩
  rcases z with z | z
  · exact h.2 z
  · exact ne z
theorem Rd.again {a : Addr} {u : HO} (ho : ω.o D) (h : Rd ω.H a u) (no : ¬ ω.o a) : Rd (ω.newL D vs).H a u ∧ ¬ (ω.newL D vs).o a := by
  have ne : a ≠ D := fun z => no (by rw [z]; exact ho)
  have e : (ω.newL D vs).H a = ω.H a := by show upd ω.H D _ a = _; unfold upd; rw [if_neg ne]
  refine ⟨?_, fun z => ?_⟩
  · unfold Rd at h ⊢; rw [e]; exact h
  · rcases z with z | z
    · exact no z
    · exact ne z
mutual
theorem Rp.again (ho : ω.o D) : ∀ {v : V} {d : W}, Rp K ω v d → Rp K (ω.newL D vs) v d
  | _, _, .non => .non
  | _, _, .bl b => .bl b
  | _, _, .int i => .int i
  | _, _, .str x => .str x
  | _, _, .tup h r => .tup (by rcases h with h | h; exact .inl (Rd.again ho h.1 h.2); exact .inr h) (Rps.again ho r)
  | _, _, .lst h r => .lst (h.again ho) (Rps.again ho r)
  | _, _, .ro h r => .ro (by rcases h with h | h; exact .inl (Rd.again ho h.1 h.2); exact .inr h) (Rps.again ho r)
  | _, _, .loc h => .loc h
  | _, _, .edict (a := a) h no => .edict (by
      have ne : a ≠ D := fun z => no (by rw [z]; exact ho)
      show upd ω.H D _ a = _; unfold upd; rw [if_neg ne]; exact h) fun z => by
      rcases z with z | z
      · exact no z
      · exact no (by rw [show a = D from z]; exact ho)
theorem Rps.again (ho : ω.o D) : ∀ {vs' : List V} {ds : List W}, Rps K ω vs' ds → Rps K (ω.newL D vs) vs' ds
  | _, _, .nil => .nil
  | _, _, .cons h r => .cons (Rp.again ho h) (Rps.again ho r)
end
theorem SR.again (sr : SR K ω S) (ho : ω.o D) (hn : D ∉ ω.as) : SR K (ω.newL D vs) S where
  len := sr.len
  live := fun n ds h => by
    obtain ⟨a, ws, h1, h2, h3, h4⟩ := sr.live n ds h
    have ne : a ≠ D := fun z => hn (by rw [← z]; exact List.mem_of_getElem? h1)
    exact ⟨a, ws, h1, by show upd ω.H D _ a = _; unfold upd; rw [if_neg ne]; exact h2, .inl h3, h4.again ho⟩
  inj := sr.inj
  tr := fun a z => by
    by_cases e : a = D
    · subst e; exact ⟨vs, by show upd ω.H a _ a = _; unfold upd; rw [if_pos rfl]⟩
    · rcases z with z | z
      · obtain ⟨ws, h⟩ := sr.tr a z
        exact ⟨ws, by show upd ω.H D _ a = _; unfold upd; rw [if_neg e]; exact h⟩
      · exact absurd z e
  cel := fun a h => by
    by_cases e : a = D
    · exact absurd (by rw [← e]; exact h) hn
    · show upd ω.H D _ a ≠ none; unfold upd; rw [if_neg e]; exact sr.cel a h
theorem Ext.again (e : Ext ω1 ω) (h1 : ω1.H D = none) (ho : ω.o D) (hn : D ∉ ω.as) : Ext ω1 (ω.newL D vs) where
  keep := fun a x h g => by
    have ne : a ≠ D := fun z => by rw [z, h1] at h; cases h
    show upd ω.H D _ a = _; unfold upd; rw [if_neg ne]; exact e.keep a x h g
  dom := fun a h => by
    by_cases z : a = D
    · rw [z]; exact h1
    · have h : upd ω.H D _ a = none := h
      unfold upd at h; rw [if_neg z] at h; exact e.dom a h
  blk := fun a z => by
    rcases z with z | z
    · exact e.blk a z
    · rw [show a = D from z]; exact .inr h1
  unb := fun a z => by
    rcases e.unb a z with y | y
    · exact .inl (.inl y)
    · exact .inr y
  new := e.new
  pre := e.pre
end
end Rf

namespace Rf
open PySem PySem.Spec L2

/-- a list under construction, held -/
structure Lk (ω : Wd) (D : Addr) (acc : List V) : Prop where
  o : ω.o D
  n : D ∉ ω.as
  h : ω.H D = some (.lst acc)
theorem Lk.mono {ω ω' : Wd} {D : Addr} {acc : List V} (l : Lk ω D acc) (e : Ext ω ω') : Lk ω' D acc where
  o := by
    rcases e.unb D l.o with z | z
    · exact z
    · exact absurd z l.n
  n := fun z => by
    rcases e.mem z with z | z
    · exact l.n z
    · rw [l.h] at z; cases z
  h := e.keep _ _ l.h (.inl l.n)
theorem Lk.again {ω : Wd} {D : Addr} {acc us : List V} (l : Lk ω D acc) : Lk (ω.newL D us) D us := ⟨.inr rfl, l.n, by show upd ω.H D _ D = _; unfold upd; rw [if_pos rfl]⟩
def stepC (M : Sem) (elt : Xp) (tg : Xt) (ifs : Xps) (own : List Nat) (env : Env) (x : W) (S : Store) : Option (Option W × Store) := match asgT M tg x (wipeE env own) S with
  | some (env', S') => match evTs M ifs env' S' with
    | some (true, S'') => match evE M elt env' S'' with
      | some (y, S3) => some (some y, S3)
      | none => none
    | some (false, S'') => some (none, S'')
    | none => none
  | none => none
theorem ev_comp {M : Sem} {elt : Xp} {tg : Xt} {it : Xi} {ifs : Xps} {own : List Nat} {env : Env} {S S' : Store} {d : W} (h : evE M (.comp elt tg it ifs own) env S = some (d, S')) : ∃ xs S1 ys, evI M it env S = some (xs, S1) ∧ compGo (stepC M elt tg ifs own env) xs [] S1 = some (ys, S') ∧ d = .lst ys := by
  rw [evE] at h
  cases e : evI M it env S with
  | none => rw [e] at h; cases h
  | some p =>
    obtain ⟨xs, S1⟩ := p
    rw [e] at h
    have h : (match compGo (stepC M elt tg ifs own env) xs [] S1 with | some (ys, S2) => some (W.lst ys, S2) | none => none) = some (d, S') := h
    cases e2 : compGo (stepC M elt tg ifs own env) xs [] S1 with
    | none => rw [e2] at h; cases h
    | some p => obtain ⟨ys, S2⟩ := p; rw [e2] at h; cases (Option.some.inj h); exact ⟨xs, S1, ys, rfl, e2, rfl⟩
theorem stepC_some {M : Sem} {elt : Xp} {tg : Xt} {ifs : Xps} {own : List Nat} {env : Env} {x : W} {S S' : Store} {o : Option W} (h : stepC M elt tg ifs own env x S = some (o, S')) : ∃ env' S1 b S2, asgT M tg x (wipeE env own) S = some (env', S1) ∧ evTs M ifs env' S1 = some (b, S2) ∧
    ((b = true ∧ ∃ y, evE M elt env' S2 = some (y, S') ∧ o = some y) ∨ (b = false ∧ o = none ∧ S' = S2)) := by
  unfold stepC at h
  cases e : asgT M tg x (wipeE env own) S with
  | none => rw [e] at h; cases h
  | some p =>
    obtain ⟨env', S1⟩ := p
    rw [e] at h
    have h : (match evTs M ifs env' S1 with | some (true, S'') => (match evE M elt env' S'' with | some (y, S3) => some (some y, S3) | none => none) | some (false, S'') => some (none, S'') | none => none) = some (o, S') := h
    cases e2 : evTs M ifs env' S1 with
    | none => rw [e2] at h; cases h
    | some p =>
      obtain ⟨b, S2⟩ := p
      rw [e2] at h
      cases b with
      | true =>
        have h : (match evE M elt env' S2 with | some (y, S3) => some (some y, S3) | none => none) = some (o, S') := h
        cases e3 : evE M elt env' S2 with
        | none => rw [e3] at h; cases h
        | some p => obtain ⟨y, S3⟩ := p; rw [e3] at h; cases (Option.some.inj h); exact ⟨env', S1, true, S2, rfl, e2, .inl ⟨rfl, y, e3, rfl⟩⟩
      | false => cases (Option.some.inj h); exact ⟨env', S1, false, _, rfl, e2, .inr ⟨rfl, rfl, rfl⟩⟩
theorem lc_in {K : PySem.W.Frag} {M : Sem} {elt : Xp} {tg : Xt} {it : Xi} {ifs : Xps} {own : List Nat} {σ : L2.St} {H : Hp} {Q : VK} (hown : ∀ i ∈ tg.vars, i ∈ own)
    (h : ∃ ω env S d S', ω.H = H ∧ ER K ω σ env ∧ SR K ω S ∧ evE M (.comp elt tg it ifs own) env S = some (d, S') ∧ ∀ v ω', Ext ω ω' → SR K ω' S' → Fresh K ω ω' v d → Q v ω'.H) :
    tLc (tI K M it) (tA K M tg) (tTs K M ifs) (tU K M elt) own σ H Q := by
  obtain ⟨ω, env, S, d, S', eH, er, sr, ev, q⟩ := h
  obtain ⟨xs, S1, ys, e1, e2, rfl⟩ := ev_comp ev
  refine ⟨ω, env, S, xs, S1, eH, er, sr, e1, fun J ω1 ex1 sr1 itw D hD => ?_⟩
  refine ⟨fun i m H => m = xs.length - i ∧ i ≤ xs.length ∧ ∃ ω2 S2 acc accd, ω2.H = H ∧ Ext ω1 ω2 ∧ SR K ω2 S2 ∧ Lk ω2 D acc ∧ Rps K ω2 acc accd ∧ compGo (stepC M elt tg ifs own env) (xs.drop i) accd S2 = some (ys, S'),
    ⟨xs.length, rfl, Nat.zero_le _, ω1.newL D [], S1, [], [], rfl, .newL hD, sr1.newL hD, ⟨.inr rfl, fun z => sr1.cel D z hD, by show upd ω1.H D _ D = _; unfold upd; rw [if_pos rfl]⟩, .nil, e2⟩, fun i m H' ⟨em, hi, ω2, S2, acc, accd, eH2, ex2, sr2, lk, racc, go⟩ => ?_⟩
  subst eH2
  by_cases hlt : i < xs.length
  · refine .inr ⟨itw.go ω2 i ex2 hlt, fun H' => xs.length - (i + 1) < m ∧ ∃ ω2 S2 acc accd, ω2.H = H' ∧ Ext ω1 ω2 ∧ SR K ω2 S2 ∧ Lk ω2 D acc ∧ Rps K ω2 acc accd ∧ compGo (stepC M elt tg ifs own env) (xs.drop (i + 1)) accd S2 = some (ys, S'), fun H' ⟨hm, w⟩ => ⟨_, hm, rfl, hlt, w⟩, fun x H' hy => ?_⟩
    have hm : xs.length - (i + 1) < m := by omega
    obtain ⟨ω3, rfl, ex3, sr3, r3⟩ := itw.yld ω2 S2 i x xs[i] H' ex2 sr2 (List.getElem?_eq_getElem hlt) hy
    rw [List.drop_eq_getElem_cons hlt] at go
    unfold compGo at go
    cases es : stepC M elt tg ifs own env xs[i] S2 with
    | none => rw [es] at go; cases go
    | some p =>
      obtain ⟨o, S5⟩ := p
      rw [es] at go
      obtain ⟨env', S3, b, S4, a1, a2, a3⟩ := stepC_some es
      have ex13 : Ext ω1 ω3 := .trans sr1.tr ex2 ex3
      refine ⟨ω3, wipeE env own, S2, xs[i], env', S3, rfl, ((er.mono ex1).mono ex13).wipe own, sr3, r3, a1, fun σ2 ω4 ex4 sr4 er4 ag => ⟨ag.wipe hown, ω4, env', S3, b, S4, rfl, er4, sr4, a2, fun ω5 ex5 sr5 => ?_⟩⟩
      have ex15 : Ext ω1 ω5 := .trans sr1.tr ex13 (.trans sr3.tr ex4 ex5)
      have ex25 : Ext ω2 ω5 := .trans sr2.tr ex3 (.trans sr3.tr ex4 ex5)
      rcases a3 with ⟨rfl, y, a4, rfl⟩ | ⟨rfl, rfl, rfl⟩
      · refine iteT ⟨ω5, env', S4, y, S5, rfl, er4.mono ex5, sr5, a4, fun v ω6 ex6 sr6 r6 => ?_⟩
        have go : (if accd.length < sizeLine then compGo (stepC M elt tg ifs own env) (xs.drop (i + 1)) (accd ++ [y]) S5 else none) = some (ys, S') := go
        by_cases hl : accd.length < sizeLine
        · rw [if_pos hl] at go
          have lk6 := (lk.mono ex25).mono ex6
          refine ⟨acc, lk6.h, by rw [racc.length]; exact hl, hm, ω6.newL D (acc ++ [v]), S5, acc ++ [v], accd ++ [y], rfl, (Ext.trans sr1.tr ex15 ex6).again hD lk6.o lk6.n, sr6.again lk6.o lk6.n, lk6.again, ?_, go⟩
          exact (((racc.mono ex25).mono ex6).again lk6.o).append (.one (r6.again lk6.o))
        · rw [if_neg hl] at go; cases go
      · exact iteF ⟨hm, ω5, S5, acc, accd, rfl, ex15, sr5, lk.mono ex25, racc.mono ex25, go⟩
  · have ei : i = xs.length := by omega
    subst ei
    rw [List.drop_length] at go
    obtain ⟨rfl, rfl⟩ : accd = ys ∧ S2 = S' := by have := Option.some.inj go; exact ⟨congrArg Prod.fst this, congrArg Prod.snd this⟩
    exact .inl ⟨itw.stop ω2 ex2, q _ ω2 (.trans sr.tr ex1 ex2) sr2 ⟨D, acc, accd, rfl, rfl, ex1.dom D hD, lk.o, lk.n, lk.h, racc⟩⟩

section
variable {Γ : Gm} {sc scope : Scope} {pos p : Pos}
theorem sts_nil : STs Γ sc [] .nil := ⟨fun C M k hc X hx => ⟨fun pins s σ H Q I ⟨ω, env, S, b, S', eH, er, sr, ev, q⟩ => by
  rw [evTs] at ev
  cases (Option.some.inj ev)
  subst eH
  exact pts_nil.run pins s σ _ Q I (q ω (.refl ω) sr)⟩⟩
theorem evTs_one {M : Sem} {a : Xp} {env : Env} {S S' : Store} {b : Bool} (h : evTs M (.cons a .nil) env S = some (b, S')) : evT M a env S = some (b, S') := by
  rw [evTs] at h
  unfold evT
  obtain ⟨x, S1, e1, e2⟩ := ev1 h
  rw [e1]
  show (truW S1 x).map _ = _
  rcases bool3 e2 with ⟨e3, e4⟩ | ⟨e3, e4⟩
  · rw [evTs] at e4; rw [e3]; exact e4
  · rw [e3]; exact e4
theorem sts_one {a : Expr} {ir : Xp} (h : SE Γ sc a ir) : STs Γ sc [a] (.cons ir .nil) := ⟨fun C M k hc X hx => ⟨fun pins s σ H Q I ⟨ω, env, S, b, S', eH, er, sr, ev, q⟩ =>
  (pts_one (h.pt C M k hc X hx)).run pins s σ H Q I ⟨ω, env, S, b, S', eH, er, sr, evTs_one ev, q⟩⟩⟩
/-- the names of a block that are its own cells -/
def cellsOf (scope : Scope) : List Str := (scope.names.map (·.1)).filter fun x => scope.names.lookup x == some .cell
def Gm.blk (Γ : Gm) (scope : Scope) : Gm := { Γ with fl := cellsOf scope }
theorem Hc.blk {C : Cn} {M : Sem} {k : Nat} (h : Hc Γ C M k) : Hc (Γ.blk scope) C M k := ⟨h.nd, h.free, h.mods, h.fns, h.cons⟩
theorem Hx.blk {C : Cn} {k : Nat} {X : Cx} (h : Hx Γ C k sc X) (s : Shared) (H : Hp) (Ca : Addr) (cl : List (Str × Addr)) (fp : List Addr) : Hx (Γ.blk scope) C k (relS scope sc) (X.blk s H scope (compEnvC scope cl Ca X.env) fp) :=
  ⟨h.prog, h.w, h.K, h.mg, h.base, h.calm, h.N, by rw [← h.scp]; rfl, h.room, h.gd, fun x hx => (List.mem_filter.mp hx).2⟩
theorem sub_of {l own : List Nat} (h : (l.all fun i => decide (i ∈ own)) = true) : ∀ i ∈ l, i ∈ own := fun i hi => by
  have := List.all_eq_true.mp h i hi; simpa using this
theorem lc_pe {elt tg iter : Expr} {ifs : List Expr} {own : List (Str × Nat)} {ire : Xp} {irt : Xt} {iri : Xi} {irf : Xps} (hi : SI Γ sc tg iter iri) (ok : blkC Γ.N sc scope own = true) (hv : (irt.vars.all fun i => decide (i ∈ own.map (·.2))) = true)
    (hg : SG (Γ.blk scope) (relS scope sc) tg irt) (ht : STs (Γ.blk scope) (relS scope sc) ifs irf) (he : SE (Γ.blk scope) (relS scope sc) elt ire) (C : Cn) (M : Sem) (k : Nat) (hc : Hc Γ C M k) (X : Cx) (hx : Hx Γ C k sc X) :
    PE X (.ListComp elt [⟨tg, iter, ifs, 0⟩] scope pos) (tE X.K M (.comp ire irt iri irf (own.map (·.2)))) :=
  PE.imp (pe_lc hx.calm (by rw [hx.N]; exact hc.nd) (hi.pi C M k hc X hx) (blkOk_by (own := own) (by rw [hx.N, hx.scp]; exact ok)) (fun s H Ca cl fp => hg.pg C M k hc.blk _ (hx.blk s H Ca cl fp)) (fun s H Ca cl fp => ht.pt C M k hc.blk _ (hx.blk s H Ca cl fp))
    (fun s H Ca cl fp => pe_unf (he.pe C M k hc.blk _ (hx.blk s H Ca cl fp))) (hi.fold _)) fun σ H Q ⟨ω, env, S, d, S', eH, er, sr, ev, q⟩ => lc_in (sub_of hv) ⟨ω, env, S, d, S', eH, er, sr, ev, fun v ω' ex sr' f => q v ω' ex sr' f⟩
theorem se_comp {elt tg iter : Expr} {ifs : List Expr} {own : List (Str × Nat)} {ire : Xp} {irt : Xt} {iri : Xi} {irf : Xps} (hi : SI Γ sc tg iter iri) (ok : blkC Γ.N sc scope own = true) (hv : (irt.vars.all fun i => decide (i ∈ own.map (·.2))) = true)
    (hg : SG (Γ.blk scope) (relS scope sc) tg irt) (ht : STs (Γ.blk scope) (relS scope sc) ifs irf) (he : SE (Γ.blk scope) (relS scope sc) elt ire) : SE Γ sc (.ListComp elt [⟨tg, iter, ifs, 0⟩] scope pos) (.comp ire irt iri irf (own.map (·.2))) :=
  se_of ⟨fun _ _ => rfl, fun _ _ => rfl, fun _ => rfl, fun _ _ => rfl, fun _ _ _ => rfl, fun h => absurd rfl (h _ _ _ _)⟩ (fun _ _ => rfl) (lc_pe hi ok hv hg ht he)
end
end Rf

namespace Rf
open PySem PySem.Spec L2

/-! ### data with no cell within -/
section
variable {K : PySem.W.Frag} {ω : Wd} {as' : List Addr}
mutual
theorem Rp.hide : ∀ {v : V} {d : W}, d.free = true → Rp K ω v d → Rp K { ω with as := as' } v d
  | _, _, _, .non => .non
  | _, _, _, .bl b => .bl b
  | _, _, _, .int i => .int i
  | _, _, _, .str x => .str x
  | _, _, f, .tup h r => .tup h (Rps.hide (by unfold W.free at f; exact f) r)
  | _, _, f, .lst h r => .lst h (Rps.hide (by unfold W.free at f; exact f) r)
  | _, _, f, .ro h r => .ro h (Rps.hide (by unfold W.free at f; exact f) r)
  | _, _, f, .loc _ => by unfold W.free at f; cases f
  | _, _, _, .edict h no => .edict h no
theorem Rps.hide : ∀ {vs : List V} {ds : List W}, W.frees ds = true → Rps K ω vs ds → Rps K { ω with as := as' } vs ds
  | _, _, _, .nil => .nil
  | _, _, f, .cons h r => by
    unfold W.frees at f
    rw [Bool.and_eq_true] at f
    exact .cons (Rp.hide f.1 h) (Rps.hide f.2 r)
end
theorem sp_pure {fn : List W → Store → Option (W × Store)} {fr : Bool} {n : Nat} {S S1 : Store} {vs : List V} {ds : List W} {d : W} {Q : VK} {E : XK} (sr : SR K ω S) (r : Rps K ω vs ds) (hf : W.frees ds = true) (hl : ds.length = n) (he : fn ds [] = some (d, S1)) (hd : d.free = true)
    (q : ∀ v ω', Ext ω ω' → SR K ω' S → Post K fr ω ω' v d → Q v ω'.H) : spW K fn fr n vs ω.H Q E := by
  refine ⟨{ ω with as := [] }, [], ds, d, S1, rfl, r.hide hf, ⟨rfl, fun n ds h => by simp at h, fun n m ds es a h => by simp at h, sr.tr, fun a h => by cases h⟩, hl, he, fun v ω' ex sr' p => ?_⟩
  have ex2 : Ext ω { ω' with as := ω.as } := ⟨fun a x h _ => ex.keep a x h (.inl List.not_mem_nil), ex.dom, ex.blk, fun a h => .inl ((ex.unb a h).resolve_right List.not_mem_nil), fun n a hn h => by
    have := (List.getElem?_eq_some_iff.mp (show ω.as[n]? = some a from h)).1; omega, fun _ _ h => h⟩
  refine q v { ω' with as := ω.as } ex2 (sr.of_ext ex2 rfl (fun a ha => ?_) (fun a h => (ex.unb a h).resolve_right List.not_mem_nil) sr'.tr) ?_
  · cases e : ω.H a with
    | none => exact absurd e (sr.cel a ha)
    | some x => exact ex.keep a x e (.inl List.not_mem_nil)
  · cases fr with
    | true =>
      obtain ⟨a, us, es, rfl, rfl, h1, h2, h3, h4, h5⟩ := (show Fresh K _ ω' v d from p)
      exact ⟨a, us, es, rfl, rfl, h1, h2, fun z => sr.cel a z h1, h4, h5.hide (by unfold W.free at hd; exact hd)⟩
    | false => exact Rp.hide (ω := ω') hd (show Rp K ω' v d from p)
theorem sp_pot {fn : List W → Store → Option (W × Store)} {fr : Bool} {n : Nat} {S S1 : Store} {vs : List V} {ds : List W} {d : W} {Q : VK} {E : XK} (sr : SR K ω S) (r : Rps K ω vs ds) (hl : ds.length = n) (he : fn ds S = some (d, S1))
    (q : ∀ v ω', Ext ω ω' → SR K ω' S1 → Rp K ω' v d → Q v ω'.H) : spW K fn fr n vs ω.H Q E :=
  ⟨ω, S, ds, d, S1, rfl, r, sr, hl, he, fun v ω' ex sr' p => by
    obtain ⟨ω3, eH, _, e3, sr3, r3⟩ := p.rp sr ex sr'
    rw [← eH]
    exact q v ω3 e3 sr3 r3⟩
end
/-- the cells' addresses -/
def Liv (ω : Wd) (S : Store) (a : Addr) : Prop := ∃ (n : Nat) (ds : List W), S[n]? = some (some ds) ∧ ω.as[n]? = some a
/-- the world in which the cells are lent -/
def Wd.lend (ω : Wd) (S : Store) : Wd := ⟨ω.H, fun a => ω.o a ∧ ¬ Liv ω S a, []⟩
section
variable {K : PySem.W.Frag} {ω : Wd} {S : Store}
mutual
theorem Rp.loose : ∀ {v : V} {d : W}, d.free = true → Rp K ω v d → Rp K (ω.lend S) v d
  | _, _, _, .non => .non
  | _, _, _, .bl b => .bl b
  | _, _, _, .int i => .int i
  | _, _, _, .str x => .str x
  | _, _, f, .tup h r => .tup (h.imp (fun z => ⟨z.1, fun y => z.2 y.1⟩) id) (Rps.loose (by unfold W.free at f; exact f) r)
  | _, _, f, .lst h r => .lst ⟨h.1, fun y => h.2 y.1⟩ (Rps.loose (by unfold W.free at f; exact f) r)
  | _, _, f, .ro h r => .ro (h.imp (fun z => ⟨z.1, fun y => z.2 y.1⟩) id) (Rps.loose (by unfold W.free at f; exact f) r)
  | _, _, f, .loc _ => by unfold W.free at f; cases f
  | _, _, _, .edict h no => .edict h fun y => no y.1
theorem Rps.loose : ∀ {vs : List V} {ds : List W}, W.frees ds = true → Rps K ω vs ds → Rps K (ω.lend S) vs ds
  | _, _, _, .nil => .nil
  | _, _, f, .cons h r => by
    unfold W.frees at f
    rw [Bool.and_eq_true] at f
    exact .cons (Rp.loose f.1 h) (Rps.loose f.2 r)
end
mutual
theorem Rp.lent (sr : SR K ω S) : ∀ {v : V} {d : W}, Rp K ω v d → ∀ {e : W}, W.deref S d = some e → Rp K (ω.lend S) v e
  | _, _, .non, e, h => by cases (Option.some.inj h); exact .non
  | _, _, .bl b, e, h => by cases (Option.some.inj h); exact .bl b
  | _, _, .int i, e, h => by cases (Option.some.inj h); exact .int i
  | _, _, .str x, e, h => by cases (Option.some.inj h); exact .str x
  | _, _, @Rp.tup _ _ a vs ds h1 r, e, h => by
    unfold W.deref at h
    cases q : W.derefs S ds with
    | none => rw [q] at h; cases h
    | some ys => rw [q] at h; cases (Option.some.inj h); exact .tup (h1.imp (fun z => ⟨z.1, fun y => z.2 y.1⟩) id) (Rps.lent sr r q)
  | _, _, @Rp.lst _ _ a vs ds h1 r, e, h => by
    unfold W.deref at h
    cases q : W.derefs S ds with
    | none => rw [q] at h; cases h
    | some ys => rw [q] at h; cases (Option.some.inj h); exact .lst ⟨h1.1, fun y => h1.2 y.1⟩ (Rps.lent sr r q)
  | _, _, @Rp.ro _ _ a vs ds h1 r, e, h => by
    unfold W.deref at h
    split at h
    · rename_i c
      cases (Option.some.inj h)
      exact .ro (h1.imp (fun z => ⟨z.1, fun y => z.2 y.1⟩) id) (Rps.loose c r)
    · cases h
  | _, _, @Rp.loc _ _ n a ha, e, h => by
    unfold W.deref at h
    cases q : (S[n]?).join with
    | none => rw [q] at h; cases h
    | some ds =>
      rw [q] at h
      dsimp only at h
      split at h
      · rename_i c
        cases (Option.some.inj h)
        have hs := join_some q
        obtain ⟨b, us, g1, g2, g3, g4⟩ := sr.live n ds hs
        have eb : b = a := Option.some.inj (g1.symm.trans ha)
        subst eb
        exact .lst ⟨g2, fun y => y.2 ⟨n, ds, hs, ha⟩⟩ (Rps.loose c g4)
      · cases h
  | _, _, .edict h1 no, e, h => by cases (Option.some.inj h); exact .edict h1 fun y => no y.1
theorem Rps.lent (sr : SR K ω S) : ∀ {vs : List V} {ds : List W}, Rps K ω vs ds → ∀ {es : List W}, W.derefs S ds = some es → Rps K (ω.lend S) vs es
  | _, _, .nil, es, h => by cases (Option.some.inj h); exact .nil
  | _, _, @Rps.cons _ _ v d vs ds h1 r, es, h => by
    unfold W.derefs at h
    cases q : W.deref S d with
    | none => rw [q] at h; cases h
    | some y =>
      rw [q] at h
      dsimp only at h
      cases q2 : W.derefs S ds with
      | none => rw [q2] at h; cases h
      | some ys => rw [q2] at h; cases (Option.some.inj h); exact .cons (Rp.lent sr h1 q) (Rps.lent sr r q2)
end
theorem derefs_len : ∀ {ds es : List W}, W.derefs S ds = some es → es.length = ds.length
  | [], es, h => by cases (Option.some.inj h); rfl
  | d :: ds, es, h => by
    unfold W.derefs at h
    cases q : W.deref S d with
    | none => rw [q] at h; cases h
    | some y =>
      rw [q] at h
      dsimp only at h
      cases q2 : W.derefs S ds with
      | none => rw [q2] at h; cases h
      | some ys => rw [q2] at h; cases (Option.some.inj h); rw [List.length_cons, List.length_cons, derefs_len q2]
theorem sp_lent {fn : List W → Store → Option (W × Store)} {fr : Bool} {n : Nat} {S1 : Store} {vs : List V} {ds es : List W} {d : W} {Q : VK} {E : XK} (sr : SR K ω S) (r : Rps K ω vs ds) (hd : W.derefs S ds = some es) (hl : ds.length = n) (he : fn es [] = some (d, S1)) (hs : d.scalar = true) (hfr : fr = false)
    (q : ∀ v ω', Ext ω ω' → SR K ω' S → Rp K ω' v d → Q v ω'.H) : spW K fn fr n vs ω.H Q E := by
  refine ⟨ω.lend S, [], es, d, S1, rfl, Rps.lent sr r hd, ⟨rfl, fun n ds h => by simp at h, fun n m ds es a h => by simp at h, fun a z => sr.tr a z.1, fun a h => by cases h⟩, (derefs_len hd).trans hl, he, fun v ω' ex sr' p => ?_⟩
  have ex2 : Ext ω ⟨ω'.H, fun a => ω'.o a ∨ Liv ω S a, ω.as⟩ := ⟨fun a x h _ => ex.keep a x h (.inl List.not_mem_nil), ex.dom, fun a h => by
      rcases h with h | ⟨m, xs, h1, h2⟩
      · exact (ex.blk a h).imp And.left id
      · obtain ⟨b, us, g1, _, g3, _⟩ := sr.live m xs h1
        have eb : b = a := Option.some.inj (g1.symm.trans h2)
        rw [← eb]; exact .inl g3, fun a h => by
      by_cases l : Liv ω S a
      · exact .inl (.inr l)
      · exact .inl (.inl ((ex.unb a ⟨h, l⟩).resolve_right List.not_mem_nil)), fun m a hm h => by
      have := (List.getElem?_eq_some_iff.mp (show ω.as[m]? = some a from h)).1; omega, fun _ _ h => h⟩
  refine q v ⟨ω'.H, fun a => ω'.o a ∨ Liv ω S a, ω.as⟩ ex2 (sr.of_ext ex2 rfl (fun a ha => ?_) (fun a h => ?_) fun a h => ?_) ?_
  · cases e : ω.H a with
    | none => exact absurd e (sr.cel a ha)
    | some x => exact ex.keep a x e (.inl List.not_mem_nil)
  · by_cases l : Liv ω S a
    · exact .inr l
    · exact .inl ((ex.unb a ⟨h, l⟩).resolve_right List.not_mem_nil)
  · rcases h with h | ⟨m, xs, h1, h2⟩
    · exact sr'.tr a h
    · obtain ⟨b, us, g1, g2, _, _⟩ := sr.live m xs h1
      have eb : b = a := Option.some.inj (g1.symm.trans h2)
      rw [← eb]
      exact ⟨us, ex.keep b _ g2 (.inl List.not_mem_nil)⟩
  · subst hfr
    have p : Rp K ω' v d := p
    cases p with
    | non => exact .non
    | bl b => exact .bl b
    | int i => exact .int i
    | str x => exact .str x
    | _ => cases hs
end
theorem sp_any {K : PySem.W.Frag} {ω : Wd} {M : Sem} {f : Nat} {n : Nat} {S S' : Store} {vs : List V} {ds : List W} {d : W} {Q : VK} {E : XK} (h : pureCall M f ds S = some (d, S')) (sr : SR K ω S) (r : Rps K ω vs ds) (hl : ds.length = n) (q : ∀ v ω', Ext ω ω' → SR K ω' S' → Post K (M.fr f) ω ω' v d → Q v ω'.H) : spW K (M.fn f) (M.fr f) n vs ω.H Q E := by
  unfold pureCall at h
  by_cases h1 : W.frees ds = true
  · rw [if_pos h1] at h
    cases e : M.fn f ds [] with
    | none => rw [e] at h; cases h
    | some p =>
      obtain ⟨d1, S1⟩ := p
      rw [e] at h
      have h : (if d1.free = true then some (d1, S) else none) = some (d, S') := h
      by_cases h2 : d1.free = true
      · rw [if_pos h2] at h; cases (Option.some.inj h); exact sp_pure sr r h1 hl e h2 q
      · rw [if_neg h2] at h; cases h
  · rw [if_neg h1] at h
    unfold lentCall at h
    cases e0 : W.derefs S ds with
    | none => rw [e0] at h; cases h
    | some es =>
      rw [e0] at h
      dsimp only at h
      cases e : M.fn f es [] with
      | none => rw [e] at h; cases h
      | some p =>
        obtain ⟨d1, S1⟩ := p
        rw [e] at h
        have h : (if d1.scalar = true ∧ M.fr f = false then some (d1, S) else none) = some (d, S') := h
        by_cases h2 : d1.scalar = true ∧ M.fr f = false
        · rw [if_pos h2] at h
          cases (Option.some.inj h)
          rw [h2.2] at q ⊢
          exact sp_lent sr r e0 hl e h2.1 rfl q
        · rw [if_neg h2] at h; cases h

/-! ### calls of the text's defs -/
section
variable {Γ : Gm} {sc : Scope} {pos p : Pos}
theorem plCall {f : Expr} {es : List Expr} {ks : List Keyword} {pos : Pos} (h : ∀ env x, foldedSetIterable (.Call f es ks pos) env x = pure x := by intro _ _; rfl) : Pl (.Call f es ks pos) :=
  ⟨fun _ _ => rfl, h, fun _ => rfl, fun _ _ => rfl, fun _ _ h => absurd rfl (h _ _ _ _), fun _ _ _ _ => rfl⟩
theorem any_back {es : List Expr} {env : PySem.Env} (h : starEach es env = es.map fun e => (false, eval e env)) (pos : Pos) : (backTo pos (starEach es env)).any (·.1) = false := by
  rw [h]
  unfold backTo
  rw [List.map_map, List.any_map]
  exact List.any_eq_false.mpr fun _ _ => by simp
theorem SEs.he {e : Expr} {es : List Expr} {irs : Xps} (h : SEs Γ sc (e :: es) irs) (env : PySem.Env) : starEach (e :: es) env = (false, eval e env) :: starEach es env := by
  rw [h.all, show starEach es env = es.map fun e => (false, eval e env) from h.tl env]; rfl
theorem SEs.hpl {e : Expr} {es : List Expr} {irs : Xps} (h : SEs Γ sc (e :: es) irs) (env : PySem.Env) (pos : Pos) : (backTo pos (starEach es env)).any (·.1) = false := any_back (h.tl env) pos
/-- what stands of the callee -/
theorem callee {C : Cn} {M : Sem} {k : Nat} {X : Cx} {f : Nat} {x : Str} {ps : List Str} (hc : Hc Γ C M k) (hx : Hx Γ C k sc X) (h1 : Γ.fns[f]? = some x) (h2 : Γ.pars[f]? = some ps) :
    ∃ a fd, FnG X.prog X.w X.K X.mg X.base k a fd ps (spW X.K (M.fn f) (M.fr f) ps.length) ∧ X.mg x = some (.ref a) ∧ PySem.W.keepIn X.K (.ref a) = true ∧ Binds X.K fd ps [] ∧
      ∀ q ∈ Γ.kws, q.1 = f → ∀ (s : Shared) (ws vs : List Value), ws.length = q.2.1.length → arrange q.2.2 ws = some vs → vs.length = ps.length → BindsTo s fd ⟨[], q.2.1.zip ws⟩ (ps.zip vs) := by
  obtain ⟨a, fd, F, kw⟩ := hc.fns f x ps h1 h2
  exact ⟨a, fd, by rw [hx.prog, hx.w, hx.K, hx.mg, hx.base]; exact F.ok, by rw [hx.mg]; exact F.at_, by rw [hx.K]; exact F.kp, by rw [hx.K]; exact F.bind, kw⟩
theorem Post.back {K : PySem.W.Frag} {fr : Bool} {ω ω1 ω2 : Wd} {v : V} {d : W} (p : Post K fr ω1 ω2 v d) (e : Ext ω ω1) : Post K fr ω ω2 v d := by
  cases fr with
  | true =>
    obtain ⟨a, us, es, rfl, rfl, h1, h2⟩ := (show Fresh K ω1 ω2 v d from p)
    exact ⟨a, us, es, rfl, rfl, e.dom a h1, h2⟩
  | false => exact p
def Xps.len : Xps → Nat
  | .nil => 0
  | .cons _ r => Xps.len r + 1
theorem evEs_len {M : Sem} {env : Env} : ∀ {irs : Xps} {S S' : Store} {ds : List W}, evEs M irs env S = some (ds, S') → ds.length = irs.len
  | .nil, S, S', ds, h => by rw [evEs] at h; cases (Option.some.inj h); rfl
  | .cons a r, S, S', ds, h => by
    obtain ⟨x, S1, xs, _, h2, rfl⟩ := evEs_cons h
    rw [List.length_cons, evEs_len h2]; rfl
/-- a def called where no repr is under way -/
theorem run_g {X : Cx} {k : Nat} {f : Addr} {fd : FuncData} {ps : List Str} {sp : Sp} {pins : List (Addr × Obj)} {σ : L2.St} {H : Hp} {s : Shared} {Q : VK} {pv us : List Value} {kv : List (Str × Value)} {vs : List V} (F : FnG X.prog X.w X.K X.mg X.base k f fd ps sp) (hr : Room k X.A) (hg : X.A.guards = some []) (I : Inv X pins σ H s)
    (hb : BindsTo s fd ⟨pv, kv⟩ (ps.zip us)) (r : Vals vs us) (h : sp vs H Q E0) : wpAny (model X.prog X.w) X.A (call (.ref f) pv kv) (EP X pins σ Q) X.xe s := by
  refine wpAny_call (codeAny_mono (F.run X.A X.stack s H ⟨pv, kv⟩ us vs Q hr hg I.env0 hb r h) fun res t hq => ?_)
  match res, hq with
  | .ok (.ret u), hq => exact I.after hq
  | .ok .next, hq => exact hq.elim
  | .ok .brk, hq => exact hq.elim
  | .ok .cont, hq => exact hq.elim
  | .error e, hq => exact hq.elim
theorem pe_callG {X : Cx} {k : Nat} {f : Addr} {fd : FuncData} {ps : List Str} {sp : Sp} {x : Str} {e : Expr} {es : List Expr} {t : TA} (F : FnG X.prog X.w X.K X.mg X.base k f fd ps sp) (hr : Room k X.A) (hgd : X.A.guards = some []) (hg : Gl X x) (hm : X.mg x = some (.ref f)) (hk : PySem.W.keepIn X.K (.ref f) = true) (hb : Binds X.K fd ps [])
    (ha : PA X (e :: es) t) (hdb : (x == ("__debug__" : Str)) = false) (he : starEach (e :: es) X.env = (false, eval e X.env) :: starEach es X.env) (hpl : (backTo pos (starEach es X.env)).any (·.1) = false) : PE X (.Call (.Name x p) (e :: es) [] pos) (tCall sp [] E0 t) :=
  ⟨fun pins s σ H Q I h => wpAny_Call_Name_kw (ld_glob I hg hm (PySem.W.callWith_K (h₀ := X.base) I.ok.mod.kin hk (thn (ha.run pos pins s σ H _ I h) fun us s1 ⟨vs, H1, I1, r, q⟩ => ⟨I1.kIn, by
    have q : sp (vs ++ []) H1 Q E0 := q
    rw [List.append_nil] at q
    have hl : us.length = ps.length := by rw [← r.length]; exact F.len _ _ _ _ q
    have b := hb s1 us I1.kIn (by rw [List.append_nil]; exact hl)
    rw [List.append_nil] at b
    exact run_g F hr hgd I1 b r q⟩) he hpl) hdb)⟩
theorem pe_callG0 {X : Cx} {k : Nat} {f : Addr} {fd : FuncData} {sp : Sp} {x : Str} (F : FnG X.prog X.w X.K X.mg X.base k f fd [] sp) (hr : Room k X.A) (hgd : X.A.guards = some []) (hg : Gl X x) (hm : X.mg x = some (.ref f)) (hk : PySem.W.keepIn X.K (.ref f) = true) (hb : Binds X.K fd [] [])
    (hdb : (x == ("__debug__" : Str)) = false) : PE X (.Call (.Name x p) [] [] pos) (tCall sp [] E0 tNil) :=
  ⟨fun pins s σ H Q I h => wpAny_Call_Name_kw (ld_glob I hg hm (PySem.W.callWith_K0 I.kIn hk (run_g (us := []) (vs := []) F hr hgd I (hb s [] I.kIn rfl) .nil h)) hdb)⟩
/-- f(e, ..): no cell goes in or out -/
theorem se_call {f : Nat} {x : Str} {ps : List Str} {e : Expr} {es : List Expr} {irs : Xps} (h1 : Γ.fns[f]? = some x) (h2 : Γ.pars[f]? = some ps) (hl : irs.len = ps.length) (hg : glB sc x = true) (hd : (x == ("__debug__" : Str)) = false) (he : SEs Γ sc (e :: es) irs) : SE Γ sc (.Call (.Name x p) (e :: es) [] pos) (.call f irs) :=
  se_of plCall (fun _ _ => rfl) fun C M k hc X hx => by
    obtain ⟨a, fd, F, hm, hk, hb, _⟩ := callee hc hx h1 h2
    refine PE.imp (pe_callG F hx.room hx.gd (hx.gl hg) hm hk hb (he.pa C M k hc X hx) hd (he.he _) (he.hpl _ _)) fun σ H Q ⟨ω, env, S, d, S', eH, er, sr, ev, q⟩ => ?_
    rw [evE] at ev
    cases e1 : evEs M irs env S with
    | none => rw [e1] at ev; cases ev
    | some z =>
      obtain ⟨ds, S1⟩ := z
      rw [e1] at ev
      refine ⟨ω, env, S, ds, _, eH, er, sr, e1, fun vs ω1 ex1 sr1 r1 => ?_⟩
      show spW X.K (M.fn f) (M.fr f) ps.length (vs ++ []) ω1.H Q E0
      rw [List.append_nil]
      exact sp_any (show pureCall M f ds S1 = some (d, S') from ev) sr1 r1 ((evEs_len e1).trans hl) fun v ω2 ex2 sr2 p2 => q v ω2 (.trans sr.tr ex1 ex2) sr2 (p2.back ex1)
/-- f() -/
theorem se_call0 {f : Nat} {x : Str} (h1 : Γ.fns[f]? = some x) (h2 : Γ.pars[f]? = some []) (hg : glB sc x = true) (hd : (x == ("__debug__" : Str)) = false) : SE Γ sc (.Call (.Name x p) [] [] pos) (.call f .nil) :=
  se_of plCall (fun _ _ => rfl) fun C M k hc X hx => by
    obtain ⟨a, fd, F, hm, hk, hb, _⟩ := callee hc hx h1 h2
    refine PE.imp (pe_callG0 F hx.room hx.gd (hx.gl hg) hm hk hb hd) fun σ H Q ⟨ω, env, S, d, S', eH, er, sr, ev, q⟩ => ?_
    rw [evE, evEs] at ev
    subst eH
    have h := sp_any (E := E0) (show pureCall M f [] S = some (d, S') from ev) sr .nil (n := 0) rfl fun v ω2 ex2 sr2 p2 => q v ω2 ex2 sr2 p2
    exact h
/-- f(e, ..), cells within -/
theorem se_callS {f : Nat} {x : Str} {ps : List Str} {e : Expr} {es : List Expr} {irs : Xps} (h1 : Γ.fns[f]? = some x) (h2 : Γ.pars[f]? = some ps) (hl : irs.len = ps.length) (hg : glB sc x = true) (hd : (x == ("__debug__" : Str)) = false) (he : SEs Γ sc (e :: es) irs) : SE Γ sc (.Call (.Name x p) (e :: es) [] pos) (.callS f irs) :=
  se_of plCall (fun _ _ => rfl) fun C M k hc X hx => by
    obtain ⟨a, fd, F, hm, hk, hb, _⟩ := callee hc hx h1 h2
    refine pe_plain rfl (PE.imp (pe_callG F hx.room hx.gd (hx.gl hg) hm hk hb (he.pa C M k hc X hx) hd (he.he _) (he.hpl _ _)) fun σ H Q ⟨ω, env, S, d, S', eH, er, sr, ev, q⟩ => ?_)
    rw [evE] at ev
    cases e1 : evEs M irs env S with
    | none => rw [e1] at ev; cases ev
    | some z =>
      obtain ⟨ds, S1⟩ := z
      rw [e1] at ev
      refine ⟨ω, env, S, ds, _, eH, er, sr, e1, fun vs ω1 ex1 sr1 r1 => ?_⟩
      show spW X.K (M.fn f) (M.fr f) ps.length (vs ++ []) ω1.H Q E0
      rw [List.append_nil]
      exact sp_pot sr1 r1 ((evEs_len e1).trans hl) (show M.fn f ds S1 = some (d, S') from ev) fun v ω2 ex2 sr2 r2 => q v ω2 (.trans sr.tr ex1 ex2) sr2 r2

/-! ### calls by keywords -/
structure SKs (Γ : Gm) (sc : Scope) (ks : List Keyword) (kn : List Str) (irs : Xps) : Prop where
  all : ∀ pos env, (backToKw pos (keywordEach ks env)).all (·.1.isSome) = true
  nm : ∀ pos env, (backToKw pos (keywordEach ks env)).filterMap (·.1) = kn
  non : ∀ pos env, (backToKw pos (keywordEach ks env)).any (·.1.isNone) = false
  pk : ∀ (C : Cn) (M : Sem) (k : Nat), Hc Γ C M k → ∀ X, Hx Γ C k sc X → PK X ks (tAs X.K M irs)
theorem pk_imp {X : Cx} {ks : List Keyword} {t t' : TA} (h : PK X ks t) (i : ∀ σ H Q, t' σ H Q → t σ H Q) : PK X ks t' := ⟨fun pos pins s σ H Q I q => h.run pos pins s σ H Q I (i σ H Q q)⟩
theorem sks_nil : SKs Γ sc [] [] .nil := ⟨fun _ _ => rfl, fun _ _ => rfl, fun _ _ => rfl, fun C M k hc X hx => pk_imp pk_nil fun σ H Q ⟨ω, env, S, ds, S', eH, er, sr, ev, q⟩ => by
  have ev := Option.some.inj (show some ([], S) = some (ds, S') from ev)
  cases ev
  subst eH
  exact q [] ω (.refl ω) sr .nil⟩
theorem sks_cons {x : Str} {e : Expr} {kpos : Pos} {ks : List Keyword} {kn : List Str} {ir : Xp} {irs : Xps} (he : SE Γ sc e ir) (h : SKs Γ sc ks kn irs) : SKs Γ sc (⟨some x, e, kpos⟩ :: ks) (x :: kn) (.cons ir irs) :=
  ⟨fun pos env => by show (true && (backToKw pos (keywordEach ks env)).all (·.1.isSome)) = true; rw [h.all]; rfl,
   fun pos env => by show x :: (backToKw pos (keywordEach ks env)).filterMap (·.1) = _; rw [h.nm],
   fun pos env => by show (false || (backToKw pos (keywordEach ks env)).any (·.1.isNone)) = false; rw [h.non]; rfl,
   fun C M k hc X hx => pk_imp (pk_cons (pe_unf (he.pe C M k hc X hx)) (h.pk C M k hc X hx)) fun σ H Q ⟨ω, env, S, ds, S', eH, er, sr, ev, q⟩ => by
    obtain ⟨x, S1, xs, e1, e2, rfl⟩ := evEs_cons ev
    refine ⟨ω, env, S, x, S1, eH, er, sr, e1, fun v ω1 ex1 sr1 r1 => ?_⟩
    refine ⟨ω1, env, S1, xs, S', rfl, er.mono ex1, sr1, e2, fun vs ω2 ex2 sr2 r2 => ?_⟩
    exact q (v :: vs) ω2 (.trans sr.tr ex1 ex2) sr2 (.cons (r1.mono ex2) r2)⟩
theorem arr_len {α : Type} : ∀ {ks : List Nat} {ds qs : List α}, arrange ks ds = some qs → qs.length = ks.length
  | [], _, _, h => by cases (Option.some.inj h); rfl
  | k :: r, ds, qs, h => by
    unfold arrange at h
    cases e1 : ds[k]? with
    | none => rw [e1] at h; cases h
    | some d =>
      cases e2 : arrange r ds with
      | none => rw [e1, e2] at h; cases h
      | some q => rw [e1, e2] at h; cases (Option.some.inj h); rw [List.length_cons, List.length_cons, arr_len e2]
/-- what stands side by side, put in order -/
theorem arr_rel {α β : Type} {P : α → β → Prop} : ∀ {ks : List Nat} {ds qs : List α} {us : List β}, (∀ (i : Nat) d, ds[i]? = some d → ∃ u, us[i]? = some u ∧ P d u) → arrange ks ds = some qs → ∃ ws, arrange ks us = some ws ∧ Paired P qs ws
  | [], _, _, _, _, h => by cases (Option.some.inj h); exact ⟨[], rfl, .nil⟩
  | k :: r, ds, qs, us, hp, h => by
    unfold arrange at h
    cases e1 : ds[k]? with
    | none => rw [e1] at h; cases h
    | some d =>
      cases e2 : arrange r ds with
      | none => rw [e1, e2] at h; cases h
      | some q =>
        rw [e1, e2] at h
        cases (Option.some.inj h)
        obtain ⟨u, h1, h2⟩ := hp k d e1
        obtain ⟨ws, h3, h4⟩ := arr_rel hp e2
        exact ⟨u :: ws, by unfold arrange; rw [h1, h3], .cons h2 h4⟩
end
end Rf

namespace Rf
open PySem PySem.Spec L2

section
variable {Γ : Gm} {sc : Scope} {pos p : Pos}
theorem paired_rps {K : PySem.W.Frag} {ω : Wd} : ∀ {ds : List W} {vs : List V}, Paired (fun d v => Rp K ω v d) ds vs → Rps K ω vs ds
  | _, _, .nil => .nil
  | _, _, .cons h r => .cons h (paired_rps r)
/-- f(k = e, ..) -/
theorem se_callK {f : Nat} {x : Str} {ps kn : List Str} {ks : List Nat} {kws : List Keyword} {irs : Xps} (h1 : Γ.fns[f]? = some x) (h2 : Γ.pars[f]? = some ps) (h3 : (f, kn, ks) ∈ Γ.kws) (hl : ks.length = ps.length) (hl2 : irs.len = kn.length) (hg : glB sc x = true) (hd : (x == ("__debug__" : Str)) = false) (he : SKs Γ sc kws kn irs) : SE Γ sc (.Call (.Name x p) [] kws pos) (.callK f .nil ks irs) :=
  se_of plCall (fun _ _ => rfl) fun C M k hc X hx => by
    obtain ⟨a, fd, F, hm, hk, hb, hkw⟩ := callee hc hx h1 h2
    refine ⟨fun pins s σ H Q I ⟨ω, env, S, d, S', eH, er, sr, ev, q⟩ => ?_⟩
    rw [evE, evEs] at ev
    have ev : (match evEs M irs env S with | some (es, S2) => (match arrange ks ([] ++ es) with | some qs => pureCall M f qs S2 | none => none) | none => none) = some (d, S') := ev
    cases e1 : evEs M irs env S with
    | none => rw [e1] at ev; cases ev
    | some z =>
      obtain ⟨ds, S1⟩ := z
      rw [e1] at ev
      have ev : (match arrange ks ds with | some qs => pureCall M f qs S1 | none => none) = some (d, S') := ev
      cases e2 : arrange ks ds with
      | none => rw [e2] at ev; cases ev
      | some qs =>
        rw [e2] at ev
        refine wpAny_Call_Name_kw (ld_glob I (hx.gl hg) hm ?_ hd)
        refine PySem.W.callWith_KW0 (h₀ := X.base) I.ok.mod.kin hk (he.all _ _) (thn ((he.pk C M k hc X hx).run pos pins s σ H (fun zs H1 => zs.length = kn.length ∧ ∃ vs, arrange ks zs = some vs ∧ spW X.K (M.fn f) (M.fr f) ps.length vs H1 Q E0) I ⟨ω, env, S, ds, _, eH, er, sr, e1, fun zs ω1 ex1 sr1 r1 => ?_⟩) fun ws s2 ⟨zs, H2, I2, rz, q1, vs, q2, q3⟩ => ⟨I2.kIn, ?_⟩) (by rw [he.non]; rfl)
        · obtain ⟨vs, a1, a2⟩ := arr_rel (P := fun d v => Rp X.K ω1 v d) (us := zs) (fun i d hi => by obtain ⟨v, b1, b2⟩ := r1.get hi; exact ⟨v, b1, b2⟩) e2
          exact ⟨(r1.length.trans (evEs_len e1)).trans hl2, vs, a1, sp_any (show pureCall M f qs S1 = some (d, S') from ev) sr1 (paired_rps a2) ((arr_len e2).trans hl) fun v ω2 ex2 sr2 p2 => q v ω2 (.trans sr.tr ex1 ex2) sr2 (p2.back ex1)⟩
        · rw [he.nm]
          obtain ⟨us, a1, a2⟩ := arr_rel (P := RelV) (us := ws) (fun i d hi => rz.get hi) q2
          exact run_g F hx.room hx.gd I2 (hkw _ h3 rfl s2 ws us (by rw [← rz.length]; exact q1) a1 ((arr_len a1).trans hl)) a2 q3

/-! ### built-ins -/
def modB : Blt → Bool
  | .gcd => true
  | .lcm => true
  | _ => false
theorem boot_blt {b : Blt} (h : modB b = false) : bootBuiltins (bltNm b) = some (bltVal b) ∧ bltNm b ∈ bltNames ∧ bltNm b ≠ "__name__" ∧ (bltNm b == ("__debug__" : Str)) = false := by
  cases b <;> first
    | (exact ⟨by decide +kernel, by decide, by decide, by decide⟩)
    | (exact Bool.noConfusion h)
theorem blt_dbg (b : Blt) : (bltNm b == ("__debug__" : Str)) = false := by cases b <;> decide
theorem pe_valcall {X : Cx} {u : Value} {x : Str} {e : Expr} {es : List Expr} {r : List V → Hp → VK → Prop} {t : TA} (hu : (∃ id, u = .builtin id) ∨ ∃ T, u = .type T) (hc : CallR X u r)
    (hl : ∀ (pins : List (Addr × Obj)) (s : Shared) (σ : L2.St) (H : Hp) (Q : Value → Shared → Prop) (E : Value → Shared → Prop), Inv X pins σ H s → Q u s → wpAny (model X.prog X.w) X.A (eval (.Name x p) X.env) Q E s)
    (ha : PA X (e :: es) t) (he : starEach (e :: es) X.env = (false, eval e X.env) :: starEach es X.env) (hpl : (backTo pos (starEach es X.env)).any (·.1) = false) : PE X (.Call (.Name x p) (e :: es) [] pos) (tCB r t) := by
  refine ⟨fun pins s σ H Q I h => ?_⟩
  refine wpAny_Call_Name_kw (hl pins s σ H _ _ I ?_)
  rcases hu with ⟨id, rfl⟩ | ⟨T, rfl⟩
  · exact PyProof.Rows.callWith_builtin1 (thn (ha.run pos pins s σ H _ I h) fun us s1 ⟨vs, H1, I1, r1, q1⟩ => hc pins s1 σ H1 vs us Q I1 r1 q1) he hpl
  · exact PyProof.Rows.callWith_type1 (thn (ha.run pos pins s σ H _ I h) fun us s1 ⟨vs, H1, I1, r1, q1⟩ => hc pins s1 σ H1 vs us Q I1 r1 q1) he hpl
theorem blt_kind (b : Blt) : (∃ id, bltVal b = .builtin id) ∨ ∃ T, bltVal b = .type T := by
  cases b <;> first | exact .inl ⟨_, rfl⟩ | exact .inr ⟨_, rfl⟩
theorem se_blt {b : Blt} {e : Expr} {es : List Expr} {irs : Xps} (hb : modB b = false ∨ b ∈ Γ.mods) (hg : glB sc (bltNm b) = true) (he : SEs Γ sc (e :: es) irs) : SE Γ sc (.Call (.Name (bltNm b) p) (e :: es) [] pos) (.blt b irs) :=
  se_of plCall (fun _ _ => rfl) fun C M k hc X hx => by
    refine PE.imp (pe_valcall (blt_kind b) (call_blt b hx.calm) (fun pins s σ H Q E I q => ?_) (he.pa C M k hc X hx) (he.he _) (he.hpl _ _)) fun σ H Q ⟨ω, env, S, d, S', eH, er, sr, ev, q⟩ => ?_
    · rcases hb with hb | hb
      · obtain ⟨h1, h2, h3, h4⟩ := boot_blt hb
        exact ld_blt I (hx.gl hg) (hc.no hx h2) h1 q h3 h4
      · exact ld_glob I (hx.gl hg) (by rw [hx.mg]; exact hc.mods b hb) q (blt_dbg b)
    · rw [evE] at ev
      cases e1 : evEs M irs env S with
      | none => rw [e1] at ev; cases ev
      | some z =>
        obtain ⟨ds, S1⟩ := z
        rw [e1] at ev
        obtain ⟨z, e3, e4⟩ := map_some (show (bltW S1 b ds).map (fun z => (z, S1)) = some (d, S') from ev)
        cases e4
        have hf : fresh M (.blt b irs) = bltFresh b := by cases b <;> rfl
        rw [hf] at q
        exact ⟨ω, env, S, ds, _, eH, er, sr, e1, fun vs ω1 ex1 sr1 r1 => ⟨ω1, _, ds, d, rfl, sr1, r1, e3, fun v ω2 ex2 sr2 p2 => q v ω2 (.trans sr.tr ex1 ex2) sr2 (p2.back ex1)⟩⟩

/-! ### isinstance -/
theorem ty_boot {t : String} (h : t ∈ tyNames) : bootBuiltins (Str.ofString t) = some (.type t) ∧ Str.ofString t ∈ bltNames ∧ Str.ofString t ≠ "__name__" ∧ (Str.ofString t == ("__debug__" : Str)) = false := by
  simp only [tyNames, List.mem_cons, List.not_mem_nil, or_false] at h
  rcases h with rfl | rfl | rfl | rfl | rfl | rfl <;> exact ⟨by decide +kernel, by decide, by decide, by decide⟩
theorem pe_tyN {t : String} {C : Cn} {M : Sem} {k : Nat} {X : Cx} (hc : Hc Γ C M k) (hx : Hx Γ C k sc X) (ht : t ∈ tyNames) (hg : glB sc (Str.ofString t) = true) : PE X (.Name (Str.ofString t) p) (tC (.ty t)) := ⟨fun pins s σ H Q I q => by
  obtain ⟨h1, h2, h3, h4⟩ := ty_boot ht
  exact ld_blt I (hx.gl hg) (hc.no hx h2) h1 ⟨.ty t, H, I, rfl, q⟩ h3 h4⟩
/-- names of types -/
structure STy (Γ : Gm) (sc : Scope) (es : List Expr) (ts : List String) : Prop where
  mem : ∀ t ∈ ts, t ∈ tyNames
  pa : ∀ (C : Cn) (M : Sem) (k : Nat), Hc Γ C M k → ∀ X, Hx Γ C k sc X → PA X es fun σ H Q => Q (ts.map V.ty) H
theorem sty_nil : STy Γ sc [] [] := ⟨fun _ h => (by cases h), fun C M k hc X hx => pa_nil⟩
theorem sty_cons {t : String} {es : List Expr} {ts : List String} (ht : t ∈ tyNames) (hg : glB sc (Str.ofString t) = true) (h : STy Γ sc es ts) : STy Γ sc (.Name (Str.ofString t) p :: es) (t :: ts) :=
  ⟨fun u hu => by rcases List.mem_cons.mp hu with e | hu; rw [e]; exact ht; exact h.mem u hu, fun C M k hc X hx => PA.imp (pa_cons (pe_tyN hc hx ht hg) (h.pa C M k hc X hx) rfl) fun σ H Q q => q⟩
theorem clsv : ∀ ts : List String, Paired ClsV (ts.map V.ty) (ts.map Value.type)
  | [] => .nil
  | t :: ts => .cons (.ty t) (clsv ts)
theorem boot_isi : bootBuiltins "isinstance" = some (.builtin "isinstance") := by decide +kernel
theorem isi_arg {a : Expr} {ir : Xp} (ha : SE Γ sc a ir) (b : Expr) (hb : ∀ es env, starEach (b :: es) env = (false, eval b env) :: starEach es env) (pos : Pos) (env : PySem.Env) : starEach [a, b] env = (false, eval a env) :: starEach [b] env ∧ (backTo pos (starEach [b] env)).any (·.1) = false :=
  ⟨ha.pl.star [b] _, by rw [hb]; rfl⟩
theorem se_isi1 {a : Expr} {ir : Xp} {t : String} {p2 : Pos} (ha : SE Γ sc a ir) (hi : glB sc "isinstance" = true) (ht : t ∈ tyNames) (hg : glB sc (Str.ofString t) = true) : SE Γ sc (.Call (.Name "isinstance" p) [a, .Name (Str.ofString t) p2] [] pos) (.isi ir [t]) :=
  se_of plCall (fun _ _ => rfl) fun C M k hc X hx => by
    obtain ⟨s1, s2⟩ := isi_arg ha (.Name (Str.ofString t) p2) (fun _ _ => rfl) pos X.env
    refine pe_plain rfl (PE.imp (pe_callB call_isi (hx.gl hi) (hc.no hx (by decide)) boot_isi (pa_cons (pe_unf (ha.pe C M k hc X hx)) (pa_cons (pe_tyN hc hx ht hg) pa_nil rfl) s1) (by decide) (by decide) s1 s2) fun σ H Q ⟨ω, env, S, d, S', eH, er, sr, ev, q⟩ => ?_)
    rw [evE] at ev
    obtain ⟨x, S1, e1, e2⟩ := ev1 ev
    obtain ⟨b, e3, e4⟩ := map_some e2
    cases e4
    refine ⟨ω, env, S, x, _, eH, er, sr, e1, fun v ω1 ex1 sr1 r1 => ?_⟩
    have e3 : (match isiOne x t, isiW x [] with | some x, some y => some (x || y) | _, _ => none) = some b := e3
    cases e5 : isiOne x t with
    | none => rw [e5] at e3; cases e3
    | some c =>
      rw [e5] at e3
      have e3 := Option.some.inj (show some (c || false) = some b from e3)
      rw [Bool.or_false] at e3
      subst e3
      obtain ⟨n, g1, g2⟩ := isi_one (K := X.K) ht e5
      exact ⟨v, .ty t, .type n, .type t, c, rfl, .ty t, ty_at r1 g1, g2, q _ ω1 ex1 sr1 (.bl c)⟩
theorem se_isiT {a : Expr} {ir : Xp} {es : List Expr} {ts : List String} {kk : Nat} {p2 : Pos} (ha : SE Γ sc a ir) (hi : glB sc "isinstance" = true) (ht : STy Γ sc es ts) (hn : ts ≠ []) (hs : ts.length < 20) : SE Γ sc (.Call (.Name "isinstance" p) [a, .Tuple es kk p2] [] pos) (.isi ir ts) :=
  se_of plCall (fun _ _ => rfl) fun C M k hc X hx => by
    obtain ⟨s1, s2⟩ := isi_arg ha (.Tuple es kk p2) (fun _ _ => rfl) pos X.env
    refine pe_plain rfl (PE.imp (pe_callB call_isiT (hx.gl hi) (hc.no hx (by decide)) boot_isi (pa_cons (pe_unf (ha.pe C M k hc X hx)) (pa_cons (pe_tup (ht.pa C M k hc X hx)) pa_nil rfl) s1) (by decide) (by decide) s1 s2) fun σ H Q ⟨ω, env, S, d, S', eH, er, sr, ev, q⟩ => ?_)
    rw [evE] at ev
    obtain ⟨x, S1, e1, e2⟩ := ev1 ev
    obtain ⟨b, e3, e4⟩ := map_some e2
    cases e4
    refine ⟨ω, env, S, x, _, eH, er, sr, e1, fun v ω1 ex1 sr1 r1 => ⟨by rw [List.length_map, sizeLine_eq]; omega, fun tp hp => ?_⟩⟩
    obtain ⟨n, g1, g2⟩ := isi_any (K := X.K) ht.mem e3 hn
    exact ⟨v, tp, ts.map V.ty, .type n, ts.map Value.type, b, rfl, by unfold upd; rw [if_pos rfl], clsv ts, ty_at (ω := ω1.new tp (.tup (ts.map V.ty))) (r1.mono (.new_ hp)) g1, g2, q _ (ω1.new tp (.tup (ts.map V.ty))) (.trans sr.tr ex1 (.new_ hp)) (sr1.new_ hp) (.bl b)⟩

/-! ### methods of lists -/
def mthNm : Mth → Str
  | .append => "append" | .extend => "extend" | .pop0 => "pop" | .pop1 => "pop" | .insert => "insert" | .clear => "clear" | .reverse => "reverse"
theorem mth_slot (m : Mth) : Slot "list" (mthNm m) (mthId m) ∧ typeOf (.builtin (mthId m)) = pure (.type "method_descriptor") := by
  cases m
  · exact ⟨PySem.F.slot_list_append, PySem.F.type_list_append⟩
  · exact ⟨PySem.F.slot_list_extend, PySem.F.type_list_extend⟩
  · exact ⟨PySem.F.slot_list_pop, PySem.F.type_list_pop⟩
  · exact ⟨PySem.F.slot_list_pop, PySem.F.type_list_pop⟩
  · exact ⟨PySem.F.slot_list_insert, PySem.F.type_list_insert⟩
  · exact ⟨PySem.F.slot_list_clear, PySem.F.type_list_clear⟩
  · exact ⟨PySem.F.slot_list_reverse, PySem.F.type_list_reverse⟩
theorem ev_meth {M : Sem} {m : Mth} {o : Xp} {args : Xps} {env : Env} {S S' : Store} {d : W} (h : evE M (.meth m o args) env S = some (d, S')) : ∃ x S1 ys ds S2, evE M o env S = some (x, S1) ∧ listOf S1 x = some ys ∧ evEs M args env S1 = some (ds, S2) ∧ methW S2 m x ds = some (d, S') := by
  rw [evE] at h
  obtain ⟨x, S1, e1, e2⟩ := ev1 h
  by_cases hl : (listOf S1 x).isSome = true
  · rw [if_pos hl] at e2
    obtain ⟨ys, hy⟩ := Option.isSome_iff_exists.mp hl
    cases e3 : evEs M args env S1 with
    | none => rw [e3] at e2; cases e2
    | some z => obtain ⟨ds, S2⟩ := z; rw [e3] at e2; exact ⟨x, S1, ys, ds, S2, e1, hy, e3, e2⟩
  · rw [if_neg hl] at e2; cases e2
theorem tyv_list {K : PySem.W.Frag} {ω : Wd} {S : Store} {v : V} {d : W} {xs : List W} (sr : SR K ω S) (r : Rp K ω v d) (h : listOf S d = some xs) : tyV K "list" v ω.H := by
  obtain ⟨a, vs, rfl, h1, _⟩ := list_rd sr r h
  exact .inl ⟨rfl, vs, h1⟩
theorem se_meth0 {m : Mth} {x : Str} {px apos : Pos} {ir : Xp} (ho : SE Γ sc (.Name x px) ir) (hl : (apos.endLine == pos.line) = true) : SE Γ sc (.Call (.Attribute (.Name x px) (mthNm m) apos) [] [] pos) (.meth m ir .nil) :=
  se_of plCall (fun _ _ => rfl) fun C M k hc X hx => pe_plain rfl (PE.imp (pe_bm0 PySem.F.plainAttrs_list (mth_slot m).1 (mth_slot m).2 (mt_meth m) (pe_unf (ho.pe C M k hc X hx)) rfl hl) fun σ H Q ⟨ω, env, S, d, S', eH, er, sr, ev, q⟩ => by
    obtain ⟨x, S1, ys, ds, S2, e1, e2, e3, e4⟩ := ev_meth ev
    rw [evEs] at e3
    obtain ⟨rfl, rfl⟩ : ds = [] ∧ S2 = S1 := by have := Option.some.inj e3; exact ⟨(congrArg Prod.fst this).symm, (congrArg Prod.snd this).symm⟩
    exact ⟨ω, env, S, x, _, eH, er, sr, e1, fun v ω1 ex1 sr1 r1 => ⟨tyv_list sr1 r1 e2, ω1, _, x, [], d, S', rfl, sr1, r1, .nil, e4, fun u ω2 ex2 sr2 r2 => q u ω2 (.trans sr.tr ex1 ex2) sr2 r2⟩⟩)
theorem se_meth1 {m : Mth} {x : Str} {px apos : Pos} {ir ira : Xp} {a : Expr} (ho : SE Γ sc (.Name x px) ir) (ha : SE Γ sc a ira) (hl : (apos.endLine == pos.line) = true) : SE Γ sc (.Call (.Attribute (.Name x px) (mthNm m) apos) [a] [] pos) (.meth m ir (.cons ira .nil)) :=
  se_of plCall (fun _ _ => rfl) fun C M k hc X hx => pe_plain rfl (PE.imp (pe_bm PySem.F.plainAttrs_list (mth_slot m).1 (mth_slot m).2 (mt_meth m) (pe_unf (ho.pe C M k hc X hx)) ((ses_one ha).pa C M k hc X hx) rfl (by rw [ha.pl.star [] _]; rfl) hl (ha.pl.star [] _) rfl) fun σ H Q ⟨ω, env, S, d, S', eH, er, sr, ev, q⟩ => by
    obtain ⟨x, S1, ys, ds, S2, e1, e2, e3, e4⟩ := ev_meth ev
    exact ⟨ω, env, S, x, _, eH, er, sr, e1, fun v ω1 ex1 sr1 r1 => ⟨tyv_list sr1 r1 e2, ω1, env, S1, ds, S2, rfl, er.mono ex1, sr1, e3, fun vs ω2 ex2 sr2 r2 => ⟨ω2, S2, x, ds, d, S', rfl, sr2, r1.mono ex2, r2, e4, fun u ω3 ex3 sr3 r3 => q u ω3 (.trans sr.tr ex1 (.trans sr1.tr ex2 ex3)) sr3 r3⟩⟩⟩)

/-! ### lists and cells -/
theorem se_thaw {e : Expr} {ir : Xp} (ht : plainTest e = true) (h : SE Γ sc e ir) : SE Γ sc e (.thaw ir) :=
  se_of h.pl (plainTest_ok ht) fun C M k hc X hx => pe_plain rfl (PE.imp (h.pe C M k hc X hx) fun σ H Q ⟨ω, env, S, d, S', eH, er, sr, ev, q⟩ => by
    rw [evE] at ev
    by_cases hf : fresh M ir = true
    · rw [if_pos hf] at ev
      cases e1 : evE M ir env S with
      | none => rw [e1] at ev; cases ev
      | some z =>
        obtain ⟨x, S1⟩ := z
        rw [e1] at ev
        cases x with
        | lst ds =>
          have ev := Option.some.inj (show some (W.loc S1.length, S1 ++ [some ds]) = some (d, S') from ev)
          cases ev
          refine ⟨ω, env, S, .lst ds, S1, eH, er, sr, e1, fun v ω1 ex1 sr1 p1 => ?_⟩
          unfold Post at p1
          rw [if_pos hf] at p1
          obtain ⟨ω2, eH2, ex2, sr2, r2⟩ := SR.thaw ex1 sr1 p1
          rw [← eH2]
          exact q v ω2 ex2 sr2 r2
        | _ => cases ev
    · rw [if_neg hf] at ev; cases ev)
theorem se_frz {e : Expr} {ir : Xp} (ht : plainTest e = true) (h : SE Γ sc e ir) : SE Γ sc e (.frz ir) :=
  se_of h.pl (plainTest_ok ht) fun C M k hc X hx => pe_plain rfl (PE.imp (pe_unf (h.pe C M k hc X hx)) fun σ H Q ⟨ω, env, S, d, S', eH, er, sr, ev, q⟩ => by
    rw [evE] at ev
    cases e1 : evE M ir env S with
    | none => rw [e1] at ev; cases ev
    | some z =>
      obtain ⟨x, S1⟩ := z
      rw [e1] at ev
      cases x with
      | loc n =>
        have ev : (match (S1[n]?).join with | some ds => some (W.lst ds, S1.set n none) | none => none) = some (d, S') := ev
        cases e2 : (S1[n]?).join with
        | none => rw [e2] at ev; cases ev
        | some ds =>
          rw [e2] at ev
          have ev := Option.some.inj ev
          cases ev
          refine ⟨ω, env, S, .loc n, S1, eH, er, sr, e1, fun v ω1 ex1 sr1 r1 => ?_⟩
          obtain ⟨a, us, rfl, h1, h2, h3, h4⟩ := loc_at sr1 r1 e2
          obtain ⟨ex2, sr2, r2⟩ := SR.drop sr1 h4 h1
          exact q (.ref a) (ω1.rel a) (.trans sr.tr ex1 ex2) sr2 r2
      | _ => cases ev)
/-! ### two lists side by side: a new one -/
def rCat (K : PySem.W.Frag) : R2 := fun x y H Q => ∃ ω S ds es, ω.H = H ∧ SR K ω S ∧ Rp K ω x (.lst ds) ∧ Rp K ω y (.lst es) ∧ ds.length + es.length ≤ sizeLine ∧ ∀ v ω', Ext ω ω' → SR K ω' S → Fresh K ω ω' v (.lst (ds ++ es)) → Q v ω'.H
theorem op_catW {X : Cx} : OpR X (binaryOp .Add) (rCat X.K) := by
  intro pins s σ H x y v u Q I rx ry h
  obtain ⟨ω, S, ds, es, rfl, sr, hx, hy, hl, q⟩ := h
  cases hx with
  | lst h1 h2 =>
    cases hy with
    | lst h3 h4 =>
      exact op_cat pins s σ ω.H _ _ v u Q I rx ry ⟨_, _, _, _, rfl, rfl, h1.1, h3.1, by rw [h2.length, h4.length]; exact hl, fun p hp => q (.ref p) (ω.newL p _) (.newL hp) (sr.newL hp) (.newL sr (.refl ω) sr hp (h2.append h4))⟩
theorem ev_cat {M : Sem} {a b : Xp} {env : Env} {S S' : Store} {d : W} (h : evE M (.cat a b) env S = some (d, S')) : ∃ ds S1 es, evE M a env S = some (.lst ds, S1) ∧ evE M b env S1 = some (.lst es, S') ∧ ds.length + es.length ≤ sizeLine ∧ d = .lst (ds ++ es) := by
  rw [evE] at h
  cases e1 : evE M a env S with
  | none => rw [e1] at h; cases h
  | some z =>
    obtain ⟨x, S1⟩ := z
    rw [e1] at h
    cases x with
    | lst ds =>
      dsimp only at h
      cases e2 : evE M b env S1 with
      | none => rw [e2] at h; cases h
      | some z =>
        obtain ⟨y, S2⟩ := z
        rw [e2] at h
        cases y with
        | lst es =>
          dsimp only at h
          split at h
          · rename_i le
            cases (Option.some.inj h)
            exact ⟨ds, S1, es, rfl, e2, le, rfl⟩
          · cases h
        | _ => cases h
    | _ => cases h
theorem se_cat {a b : Expr} {ira irb : Xp} (ha : SE Γ sc a ira) (hb : SE Γ sc b irb) : SE Γ sc (.BinOp a .Add b pos) (.cat ira irb) :=
  se_of ⟨fun _ _ => rfl, fun _ _ => rfl, fun _ => rfl, fun _ _ => rfl, fun _ _ _ => rfl, fun _ _ _ _ => rfl⟩ (fun _ _ => rfl) fun C M k hc X hx => PE.imp (pe_op op_catW (pe_unf (ha.pe C M k hc X hx)) (pe_unf (hb.pe C M k hc X hx))) fun σ H Q ⟨ω, env, S, d, S', eH, er, sr, ev, q⟩ => by
    obtain ⟨ds, S1, es, e1, e2, le, rfl⟩ := ev_cat ev
    exact two_in eH er sr e1 e2 fun v u ω' ex sr' r1 r2 => ⟨ω', S', ds, es, rfl, sr', r1, r2, le, fun w ω2 ex2 sr2 f => q w ω2 (.trans sr.tr ex ex2) sr2 (Post.back (fr := true) f ex)⟩
/-! ### repr -/
theorem reprW_some {x z : W} (h : reprW x = some z) : x.ok 40 = true ∧ x.py.showable = true ∧ x.py.hasDict = false ∧ x.py.shown.length ≤ sizeLine ∧ z = .str x.py.shown ∧ ((∃ l, x = .tup l) ∨ ∃ l, x = .lst l) := by
  cases x with
  | tup l =>
    unfold reprW at h
    dsimp only at h
    split at h
    · rename_i c; exact ⟨c.1, c.2.1, c.2.2.1, c.2.2.2, (Option.some.inj h).symm, .inl ⟨l, rfl⟩⟩
    · cases h
  | lst l =>
    unfold reprW at h
    dsimp only at h
    split at h
    · rename_i c; exact ⟨c.1, c.2.1, c.2.2.1, c.2.2.2, (Option.some.inj h).symm, .inr ⟨l, rfl⟩⟩
    · cases h
  | _ => cases h
def rRepr (K : PySem.W.Frag) : List V → Hp → VK → Prop := fun xs H Q => ∃ ω S v x z, ω.H = H ∧ SR K ω S ∧ xs = [v] ∧ Rp K ω v x ∧ reprW x = some z ∧ ∀ y, z = .str y → Q (.str y) H
theorem call_reprW {X : Cx} (hg : X.A.guards = some []) (hu : X.A.units + 64 < cLine) : CallR X (.builtin "repr") (rRepr X.K) := by
  intro pins s σ H xs us Q I r h
  obtain ⟨ω, S, v, x, z, rfl, sr, rfl, rx, hz, q⟩ := h
  obtain ⟨c1, c2, c3, c4, rfl, c6⟩ := reprW_some hz
  cases r with
  | cons r1 rr =>
    cases rr
    obtain ⟨as, ra⟩ := Dp.reads I x.py v _ (rx.dp 40 c1) r1
    have hd := (py_plain x 40 c1).2
    obtain ⟨a, rfl⟩ : ∃ a, v = .ref a := by
      rcases c6 with ⟨l, rfl⟩ | ⟨l, rfl⟩
      · cases rx with
        | tup _ _ => exact ⟨_, rfl⟩
      · cases rx with
        | lst _ _ => exact ⟨_, rfl⟩
    cases r1
    refine repr_of_reads' ra c2 (fun h => by rw [c3] at h; cases h) hg (by omega) (fun _ _ e => e) (fun h' u tk hk => ?_) c4
    exact ⟨.str x.py.shown, ω.H, I.kept hk, ⟨u, rfl⟩, q _ rfl⟩
theorem boot_repr' : bootBuiltins "repr" = some (.builtin "repr") := by decide +kernel
theorem se_repr {a : Expr} {ir : Xp} (ha : SE Γ sc a ir) (hg : glB sc "repr" = true) : SE Γ sc (.Call (.Name "repr" p) [a] [] pos) (.repr ir) :=
  se_of plCall (fun _ _ => rfl) fun C M k hc X hx => by
    refine pe_plain rfl (PE.imp (pe_callB (call_reprW hx.gd (by have := hx.room.un; omega)) (hx.gl hg) (hc.no hx (by decide)) boot_repr' ((ses_one ha).pa C M k hc X hx) (by decide) (by decide) ((ses_one ha).he _) ((ses_one ha).hpl _ _)) fun σ H Q ⟨ω, env, S, d, S', eH, er, sr, ev, q⟩ => ?_)
    rw [evE] at ev
    obtain ⟨x, S1, e1, e2⟩ := ev1 ev
    obtain ⟨z, e3, e4⟩ := map_some e2
    cases e4
    refine ⟨ω, env, S, [x], _, eH, er, sr, evEs_mk e1 (by rw [evEs]), fun vs ω1 ex1 sr1 r1 => ?_⟩
    obtain ⟨v, rfl, r2⟩ := one_rps r1
    exact ⟨ω1, _, v, x, d, rfl, sr1, rfl, r2, e3, fun y ey => q _ ω1 ex1 sr1 (by rw [ey]; exact .str y)⟩
end
end Rf

namespace Rf
open PySem PySem.Spec L2

/-! ### statements: readings -/
/-- what an end asks -/
def EO (K : PySem.W.Frag) (fr : Bool) (ω : Wd) (D : Ends) : Rs → Prop
  | .next env S => ∀ σ' ω', Ext ω ω' → SR K ω' S → ER K ω' σ' env → D.nx σ' ω'.H
  | .ret w S => ∀ v ω', Ext ω ω' → SR K ω' S → Post K fr ω ω' v w → D.rt v ω'.H
  | .brk env S => ∀ σ' ω', Ext ω ω' → SR K ω' S → ER K ω' σ' env → D.bk σ' ω'.H
  | .cont env S => ∀ σ' ω', Ext ω ω' → SR K ω' S → ER K ω' σ' env → D.ct σ' ω'.H
theorem EO.fwd {K : PySem.W.Frag} {fr : Bool} {ω ω1 : Wd} {D : Ends} {r : Rs} (t : Tr ω) (e : Ext ω ω1) (h : EO K fr ω D r) : EO K fr ω1 D r := by
  cases r with
  | next env S => exact fun σ' ω' e' sr er => h σ' ω' (.trans t e e') sr er
  | ret w S => exact fun v ω' e' sr p => h v ω' (.trans t e e') sr (p.back e)
  | brk env S => exact fun σ' ω' e' sr er => h σ' ω' (.trans t e e') sr er
  | cont env S => exact fun σ' ω' e' sr er => h σ' ω' (.trans t e e') sr er
def tS (K : PySem.W.Frag) (M : Sem) (fr : Bool) (ir : Sm) : TS := fun D σ H => ∃ ω env S r, ω.H = H ∧ ER K ω σ env ∧ SR K ω S ∧ evS M ir env S = some r ∧ EO K fr ω D r
def tSs (K : PySem.W.Frag) (M : Sem) (fr : Bool) (irs : Sms) : TS := fun D σ H => ∃ ω env S r, ω.H = H ∧ ER K ω σ env ∧ SR K ω S ∧ evSs M irs env S = some r ∧ EO K fr ω D r
/-- what the context of statements is -/
structure Hs (X : Cx) : Prop where
  pass : PassesOwn (model X.prog X.w) X.A X.env X.xe
  kind : X.env.blockKind = .function
structure SS (Γ : Gm) (sc : Scope) (fr : Bool) (st : Stmt) (ir : Sm) : Prop where
  ps : ∀ (C : Cn) (M : Sem) (k : Nat), Hc Γ C M k → ∀ X, Hx Γ C k sc X → Hs X → PS X st (tS X.K M fr ir)
structure SSs (Γ : Gm) (sc : Scope) (fr : Bool) (sts : List Stmt) (irs : Sms) : Prop where
  ps : ∀ (C : Cn) (M : Sem) (k : Nat), Hc Γ C M k → ∀ X, Hx Γ C k sc X → Hs X → PSs X sts (tSs X.K M fr irs)

section
variable {Γ : Gm} {sc : Scope} {fr : Bool} {pos p : Pos}
theorem ss_nil : SSs Γ sc fr [] .nil := ⟨fun C M k hc X hx hs => PSs.imp pss_nil fun D σ H ⟨ω, env, S, r, eH, er, sr, ev, q⟩ => by
  rw [evSs] at ev
  cases (Option.some.inj ev)
  subst eH
  exact q σ ω (.refl ω) sr er⟩
theorem ss_cons {st : Stmt} {sts : List Stmt} {ir : Sm} {irs : Sms} (h1 : SS Γ sc fr st ir) (h2 : SSs Γ sc fr sts irs) : SSs Γ sc fr (st :: sts) (.cons ir irs) := ⟨fun C M k hc X hx hs => PSs.imp (pss_cons (h1.ps C M k hc X hx hs) (h2.ps C M k hc X hx hs)) fun D σ H ⟨ω, env, S, r, eH, er, sr, ev, q⟩ => by
  rw [evSs] at ev
  cases e1 : evS M ir env S with
  | none => rw [e1] at ev; cases ev
  | some r1 =>
    rw [e1] at ev
    refine ⟨ω, env, S, r1, eH, er, sr, e1, ?_⟩
    cases r1 with
    | next env1 S1 =>
      have ev : evSs M irs env1 S1 = some r := ev
      exact fun σ' ω' ex' sr' er' => ⟨ω', env1, S1, r, rfl, er', sr', ev, q.fwd sr.tr ex'⟩
    | ret w S1 => cases (Option.some.inj ev); exact q
    | brk env1 S1 => cases (Option.some.inj ev); exact q
    | cont env1 S1 => cases (Option.some.inj ev); exact q⟩
theorem ss_pass : SS Γ sc fr (.Pass pos) .pass := ⟨fun C M k hc X hx hs => PS.imp ps_pass fun D σ H ⟨ω, env, S, r, eH, er, sr, ev, q⟩ => by
  rw [evS] at ev
  cases (Option.some.inj ev)
  subst eH
  exact q σ ω (.refl ω) sr er⟩
theorem ss_doc {x : Str} {j : Nat} {pos' : Pos} : SS Γ sc fr (.Expr (.Constant (.str x) j pos) pos') .pass := ⟨fun C M k hc X hx hs => PS.imp ps_doc fun D σ H ⟨ω, env, S, r, eH, er, sr, ev, q⟩ => by
  rw [evS] at ev
  cases (Option.some.inj ev)
  subst eH
  exact q σ ω (.refl ω) sr er⟩
theorem ss_brk : SS Γ sc fr (.Break pos) .brk := ⟨fun C M k hc X hx hs => PS.imp ps_break fun D σ H ⟨ω, env, S, r, eH, er, sr, ev, q⟩ => by
  rw [evS] at ev
  cases (Option.some.inj ev)
  subst eH
  exact q σ ω (.refl ω) sr er⟩
theorem ss_cont : SS Γ sc fr (.Continue pos) .cont := ⟨fun C M k hc X hx hs => PS.imp ps_continue fun D σ H ⟨ω, env, S, r, eH, er, sr, ev, q⟩ => by
  rw [evS] at ev
  cases (Option.some.inj ev)
  subst eH
  exact q σ ω (.refl ω) sr er⟩
theorem ss_never {st : Stmt} : SS Γ sc fr st .never := ⟨fun C M k hc X hx hs => PS.imp ps_never fun D σ H ⟨ω, env, S, r, eH, er, sr, ev, q⟩ => by
  rw [evS] at ev; cases ev⟩
theorem ss_expr {e : Expr} {ir : Xp} (h : SE Γ sc e ir) (hn : ∀ a b c d, e ≠ .ListComp a b c d) : SS Γ sc fr (.Expr e pos) (.expr ir) := ⟨fun C M k hc X hx hs => PS.imp (ps_expr (pe_unf (h.pe C M k hc X hx)) (h.pl.sw hn _ _ _)) fun D σ H ⟨ω, env, S, r, eH, er, sr, ev, q⟩ => by
  rw [evS] at ev
  obtain ⟨x, S1, e1, e2⟩ := ev1 ev
  cases (Option.some.inj e2)
  exact ⟨ω, env, S, x, S1, eH, er, sr, e1, fun v ω' ex sr' _ => q σ ω' ex sr' (er.mono ex)⟩⟩
theorem ss_ret {e : Expr} {ir : Xp} (h : SE Γ sc e ir) : SS Γ sc false (.Return (some e) pos) (.ret ir) := ⟨fun C M k hc X hx hs => PS.imp (ps_ret (pe_unf (h.pe C M k hc X hx))) fun D σ H ⟨ω, env, S, r, eH, er, sr, ev, q⟩ => by
  rw [evS] at ev
  obtain ⟨x, S1, e1, e2⟩ := ev1 ev
  cases (Option.some.inj e2)
  exact ⟨ω, env, S, x, S1, eH, er, sr, e1, fun v ω' ex sr' rp => q v ω' ex sr' rp⟩⟩
/-- a new list handed out: for every reading it is one -/
def newX (Γf : Nat → Bool) : Xp → Bool
  | .lst _ => true
  | .comp .. => true
  | .blt .list _ => true
  | .cat _ _ => true
  | _ => false
theorem newX_ok {g : Nat → Bool} {ir : Xp} (h : newX g ir = true) (M : Sem) : fresh M ir = true := by
  unfold newX at h
  split at h <;> first | rfl | exact nomatch h
theorem ss_retF {g : Nat → Bool} {e : Expr} {ir : Xp} (hf : newX g ir = true) (h : SE Γ sc e ir) : SS Γ sc true (.Return (some e) pos) (.ret ir) := ⟨fun C M k hc X hx hs => PS.imp (ps_ret (h.pe C M k hc X hx)) fun D σ H ⟨ω, env, S, r, eH, er, sr, ev, q⟩ => by
  rw [evS] at ev
  obtain ⟨x, S1, e1, e2⟩ := ev1 ev
  cases (Option.some.inj e2)
  exact ⟨ω, env, S, x, S1, eH, er, sr, e1, fun v ω' ex sr' rp => q v ω' ex sr' (by rw [newX_ok hf M] at rp; exact rp)⟩⟩
theorem ss_retN : SS Γ sc false (.Return none pos) .retN := ⟨fun C M k hc X hx hs => PS.imp ps_retN fun D σ H ⟨ω, env, S, r, eH, er, sr, ev, q⟩ => by
  rw [evS] at ev
  cases (Option.some.inj ev)
  subst eH
  exact q .non ω (.refl ω) sr .non⟩
theorem ss_if {t : Expr} {a b : List Stmt} {irt : Xp} {ira irb : Sms} (ht : SE Γ sc t irt) (ha : SSs Γ sc fr a ira) (hb : SSs Γ sc fr b irb) : SS Γ sc fr (.If t a b pos) (.iff irt ira irb) := ⟨fun C M k hc X hx hs => PS.imp (ps_if (ht.pt C M k hc X hx) (ha.ps C M k hc X hx hs) (hb.ps C M k hc X hx hs)) fun D σ H ⟨ω, env, S, r, eH, er, sr, ev, q⟩ => by
  rw [evS] at ev
  cases e1 : evT M irt env S with
  | none => rw [e1] at ev; cases ev
  | some z =>
    obtain ⟨c, S1⟩ := z
    rw [e1] at ev
    refine ⟨ω, env, S, c, S1, eH, er, sr, e1, fun ω1 ex1 sr1 => ?_⟩
    cases c with
    | true => exact iteT ⟨ω1, env, S1, r, rfl, er.mono ex1, sr1, ev, q.fwd sr.tr ex1⟩
    | false => exact iteF ⟨ω1, env, S1, r, rfl, er.mono ex1, sr1, ev, q.fwd sr.tr ex1⟩⟩

/-- a cell let go between two statements -/
theorem ss_freeze {sts : List Stmt} {i : Nat} {irs : Sms} (h : SSs Γ sc fr sts irs) : SSs Γ sc fr sts (.cons (.freeze i) irs) := ⟨fun C M k hc X hx hs => PSs.imp (h.ps C M k hc X hx hs) fun D σ H ⟨ω, env, S, r, eH, er, sr, ev, q⟩ => by
  rw [evSs, evS] at ev
  cases e1 : env[i]? with
  | none => rw [e1] at ev; cases ev
  | some o =>
    cases o with
    | none => rw [e1] at ev; cases ev
    | some w =>
      rw [e1] at ev
      simp only [Option.join_some] at ev
      cases w with
      | loc n =>
        dsimp only at ev
        cases e2 : (S[n]?).join with
        | none => rw [e2] at ev; cases ev
        | some ds =>
          rw [e2] at ev
          obtain ⟨v, g1, g2⟩ := er.at_ i _ e1
          obtain ⟨a, us, rfl, h1, h2, h3, h4⟩ := loc_at sr g2 e2
          obtain ⟨ex2, sr2, r2⟩ := SR.drop sr h4 h1
          refine ⟨ω.rel a, _, _, r, eH, ⟨?_, fun j w hj => ?_⟩, sr2, ev, q.fwd sr.tr ex2⟩
          · rw [List.length_set]; exact er.len
          · rw [List.getElem?_set] at hj
            split at hj
            · rename_i ej
              subst ej
              split at hj
              · cases hj; exact ⟨_, g1, r2⟩
              · cases hj
            · exact (er.mono ex2).at_ j w hj
      | _ => cases ev⟩

/-! ### stores -/
theorem asg_some {M : Sem} {t : Xt} {e : Xp} {env : Env} {S : Store} {r : Rs} (h : evS M (.asg t e) env S = some r) : ∃ w S1 env1 S2, evE M e env S = some (w, S1) ∧ asgT M t w env S1 = some (env1, S2) ∧ r = .next env1 S2 := by
  rw [evS] at h
  obtain ⟨w, S1, e1, e2⟩ := ev1 h
  cases e3 : asgT M t w env S1 with
  | none => rw [e3] at e2; cases e2
  | some z => obtain ⟨env1, S2⟩ := z; rw [e3] at e2; cases (Option.some.inj e2); exact ⟨w, S1, env1, S2, e1, e3, rfl⟩
/-- the value has no block of its own that swaps -/
theorem ss_asg {t e : Expr} {irt : Xt} {ir : Xp} (ht : SG Γ sc t irt) (he : SE Γ sc e ir) (hs : ∀ X : Cx, X.env.scope = sc → X.env.blockKind = .function → swapsWithSole [t] e pos.line X.env = pure false) (hw : ∀ X : Cx, X.env.scope = sc → X.env.blockKind = .function → swappedStores [t] e X.env = pure none) :
    SS Γ sc fr (.Assign [t] e pos) (.asg irt ir) := ⟨fun C M k hc X hx hk => PS.imp (ps_asg (pe_unf (he.pe C M k hc X hx)) (ht.pg C M k hc X hx) (hs X hx.scp hk.kind) (hw X hx.scp hk.kind) (by rw [ht.each]; rfl)) fun D σ H ⟨ω, env, S, r, eH, er, sr, ev, q⟩ => by
  obtain ⟨w, S1, env1, S2, e1, e2, rfl⟩ := asg_some ev
  exact ⟨ω, env, S, w, S1, eH, er, sr, e1, fun v ω1 ex1 sr1 r1 => ⟨ω1, env, S1, w, env1, S2, rfl, er.mono ex1, sr1, r1, e2, fun σ' ω' ex sr' er' _ => q σ' ω' (.trans sr.tr ex1 ex) sr' er'⟩⟩⟩
/-- name = [..], stored ere the block ends -/
theorem asg_name {M : Sem} {i : Nat} {w : W} {env env1 : Env} {S S1 : Store} (h : asgT M (.name i) w env S = some (env1, S1)) : env1 = env.set i (some w) ∧ S1 = S := by
  rw [asgT] at h
  split at h
  · have := Option.some.inj h; exact ⟨(congrArg Prod.fst this).symm, (congrArg Prod.snd this).symm⟩
  · cases h
theorem ss_setLc {y : Str} {py : Pos} {i : Nat} {elt tg iter : Expr} {ifs : List Expr} {scope : Scope} {own : List (Str × Nat)} {pos' : Pos} {ire : Xp} {irt : Xt} {iri : Xi} {irf : Xps} (th : Bool) (h1 : Γ.N[i]? = some y) (hy : sc.names.lookup y = some .local) (hk : sc.kind = .function)
    (hline : (py.line == pos'.line) = true) (hown : (scope.names.any fun (n, k) => n == y && (k == .local || k == .cell)) = false)
    (hi : SI Γ sc tg iter iri) (ok : blkC Γ.N sc scope own = true) (hv : (irt.vars.all fun i => decide (i ∈ own.map (·.2))) = true)
    (hg : SG (Γ.blk scope) (relS scope sc) tg irt) (ht : STs (Γ.blk scope) (relS scope sc) ifs irf) (he : SE (Γ.blk scope) (relS scope sc) elt ire) :
    SS Γ sc fr (.Assign [.Name y py] (.ListComp elt [⟨tg, iter, ifs, 0⟩] scope pos') pos) (.asg (.name i) (if th = true then .thaw (.comp ire irt iri irf (own.map (·.2))) else .comp ire irt iri irf (own.map (·.2)))) :=
  ⟨fun C M k hc X hx hs => PS.imp (ps_setLc (i := i) (wi := tI X.K M iri) (g := tA X.K M irt) (tt := tTs X.K M irf) (te := tU X.K M ire) hx.calm (by rw [hx.N]; exact hc.nd) (by rw [hx.N]; exact h1) (by rw [hx.scp]; exact hy) (sw_true (by rw [hx.scp]; exact hk) (by rw [hx.scp]; exact hy) hline hown) (hi.pi C M k hc X hx) (blkOk_by (own := own) (by rw [hx.N, hx.scp]; exact ok)) (fun s H Ca cl fp => hg.pg C M k hc.blk _ (hx.blk s H Ca cl fp)) (fun s H Ca cl fp => ht.pt C M k hc.blk _ (hx.blk s H Ca cl fp))
    (fun s H Ca cl fp => pe_unf (he.pe C M k hc.blk _ (hx.blk s H Ca cl fp))) (hi.fold _)) fun D σ H ⟨ω, env, S, r, eH, er, sr, ev, q⟩ => by
    obtain ⟨w, S1, env1, S2, e1, e2, rfl⟩ := asg_some ev
    obtain ⟨rfl, rfl⟩ := asg_name e2
    show tLc _ _ _ _ _ σ H fun x H1 => D.nx (σ.set i (some x)) H1
    cases th with
    | false =>
      rw [if_neg Bool.false_ne_true] at e1
      refine lc_in (sub_of hv) ⟨ω, env, S, w, S2, eH, er, sr, e1, fun v ω' ex sr' f => ?_⟩
      obtain ⟨ω3, eH3, _, ex3, sr3, r3⟩ := f.rp sr ex sr'
      rw [← eH3]
      exact q _ ω3 ex3 sr3 ((er.mono ex3).set r3)
    | true =>
      rw [if_pos rfl, evE, if_pos (show fresh M (.comp ire irt iri irf (own.map (·.2))) = true from rfl)] at e1
      cases e3 : evE M (.comp ire irt iri irf (own.map (·.2))) env S with
      | none => rw [e3] at e1; cases e1
      | some z =>
        obtain ⟨x, S3⟩ := z
        rw [e3] at e1
        obtain ⟨_, _, ys, _, _, rfl⟩ := ev_comp e3
        have e1 := Option.some.inj (show some (W.loc S3.length, S3 ++ [some ys]) = some (w, S2) from e1)
        cases e1
        refine lc_in (sub_of hv) ⟨ω, env, S, .lst ys, S3, eH, er, sr, e3, fun v ω' ex sr' f => ?_⟩
        obtain ⟨ω3, eH3, ex3, sr3, r3⟩ := SR.thaw ex sr' f
        rw [← eH3]
        exact q _ ω3 ex3 sr3 ((er.mono ex3).set r3)⟩
/-- a, b = x, y with plain names -/
theorem ss_par2 {x y : Str} {i j : Nat} {a b : Expr} {px py pt pt2 : Pos} {kt k2 : Nat} {ira irb : Xp} (h1 : Γ.N[i]? = some x) (h2 : Γ.N[j]? = some y) (hij : i ≠ j) (hx' : sc.names.lookup x = some .local) (hy' : sc.names.lookup y = some .local) (ha : SE Γ sc a ira) (hb : SE Γ sc b irb)
    (hw : ∀ X : Cx, X.env.scope = sc → X.env.blockKind = .function → swappedStores [.Tuple [.Name x px, .Name y py] kt pt] (.Tuple [a, b] k2 pt2) X.env = pure (some [x, y])) :
    SS Γ sc fr (.Assign [.Tuple [.Name x px, .Name y py] kt pt] (.Tuple [a, b] k2 pt2) pos) (.asg (.tup (.cons (.name i) (.cons (.name j) .nil))) (.tup (.cons ira (.cons irb .nil)))) :=
  ⟨fun C M k hc X hx hs => PS.imp (ps_par (i := i) (j := j) hx.calm (by rw [hx.N]; exact hc.nd) (by rw [hx.N]; exact h1) (by rw [hx.N]; exact h2) hij (by rw [hx.scp]; exact hx') (by rw [hx.scp]; exact hy') ((ses_cons ha (ses_one hb)).pa C M k hc X hx) (hw X hx.scp hs.kind)) fun D σ H ⟨ω, env, S, r, eH, er, sr, ev, q⟩ => by
    obtain ⟨w, S1, env1, S2, e1, e2, rfl⟩ := asg_some ev
    rw [evE] at e1
    cases e3 : evEs M (.cons ira (.cons irb .nil)) env S with
    | none => rw [e3] at e1; cases e1
    | some z =>
      obtain ⟨ds, S3⟩ := z
      rw [e3] at e1
      have e1 : (if ds.length ≤ sizeLine then some (W.tup ds, S3) else none) = some (w, S1) := e1
      split at e1
      · obtain ⟨rfl, rfl⟩ : W.tup ds = w ∧ S3 = S1 := by have := Option.some.inj e1; exact ⟨congrArg Prod.fst this, congrArg Prod.snd this⟩
        rw [asgT] at e2
        obtain ⟨d1, es, env2, S4, rfl, a1, a2⟩ := asgTs_cons e2
        obtain ⟨d2, es2, env3, S5, rfl, a3, a4⟩ := asgTs_cons a2
        obtain ⟨rfl, a5⟩ := asgTs_nil a4
        cases a5
        obtain ⟨rfl, rfl⟩ := asg_name a1
        obtain ⟨rfl, rfl⟩ := asg_name a3
        refine ⟨ω, env, S, [d1, d2], _, eH, er, sr, e3, fun vs ω1 ex1 sr1 r1 => ?_⟩
        obtain ⟨u, v, rfl, r2, r3⟩ := two_rps r1
        exact ⟨u, v, rfl, q _ ω1 ex1 sr1 (((er.mono ex1).set r2).set r3)⟩
      · cases e1⟩
theorem ss_par3 {x y z : Str} {i j l : Nat} {a b c : Expr} {px py pz pt pt2 : Pos} {kt k2 : Nat} {ira irb irc : Xp} (h1 : Γ.N[i]? = some x) (h2 : Γ.N[j]? = some y) (h3 : Γ.N[l]? = some z) (hij : i ≠ j) (hil : i ≠ l) (hjl : j ≠ l) (hx' : sc.names.lookup x = some .local) (hy' : sc.names.lookup y = some .local) (hz' : sc.names.lookup z = some .local) (ha : SE Γ sc a ira) (hb : SE Γ sc b irb) (hcc : SE Γ sc c irc)
    (hw : ∀ X : Cx, X.env.scope = sc → X.env.blockKind = .function → swappedStores [.Tuple [.Name x px, .Name y py, .Name z pz] kt pt] (.Tuple [a, b, c] k2 pt2) X.env = pure (some [x, y, z])) :
    SS Γ sc fr (.Assign [.Tuple [.Name x px, .Name y py, .Name z pz] kt pt] (.Tuple [a, b, c] k2 pt2) pos) (.asg (.tup (.cons (.name i) (.cons (.name j) (.cons (.name l) .nil)))) (.tup (.cons ira (.cons irb (.cons irc .nil))))) :=
  ⟨fun C M k hc X hx hs => PS.imp (ps_par3 (i := i) (j := j) (l := l) hx.calm (by rw [hx.N]; exact hc.nd) (by rw [hx.N]; exact h1) (by rw [hx.N]; exact h2) (by rw [hx.N]; exact h3) hij hil hjl (by rw [hx.scp]; exact hx') (by rw [hx.scp]; exact hy') (by rw [hx.scp]; exact hz') ((ses_cons ha (ses_cons hb (ses_one hcc))).pa C M k hc X hx) (hw X hx.scp hs.kind)) fun D σ H ⟨ω, env, S, r, eH, er, sr, ev, q⟩ => by
    obtain ⟨w, S1, env1, S2, e1, e2, rfl⟩ := asg_some ev
    rw [evE] at e1
    cases e3 : evEs M (.cons ira (.cons irb (.cons irc .nil))) env S with
    | none => rw [e3] at e1; cases e1
    | some z =>
      obtain ⟨ds, S3⟩ := z
      rw [e3] at e1
      have e1 : (if ds.length ≤ sizeLine then some (W.tup ds, S3) else none) = some (w, S1) := e1
      split at e1
      · obtain ⟨rfl, rfl⟩ : W.tup ds = w ∧ S3 = S1 := by have := Option.some.inj e1; exact ⟨congrArg Prod.fst this, congrArg Prod.snd this⟩
        rw [asgT] at e2
        obtain ⟨d1, es, env2, S4, rfl, a1, a2⟩ := asgTs_cons e2
        obtain ⟨d2, es2, env3, S5, rfl, a3, a4⟩ := asgTs_cons a2
        obtain ⟨d3, es3, env4, S6, rfl, a6, a7⟩ := asgTs_cons a4
        obtain ⟨rfl, a5⟩ := asgTs_nil a7
        cases a5
        obtain ⟨rfl, rfl⟩ := asg_name a1
        obtain ⟨rfl, rfl⟩ := asg_name a3
        obtain ⟨rfl, rfl⟩ := asg_name a6
        refine ⟨ω, env, S, [d1, d2, d3], _, eH, er, sr, e3, fun vs ω1 ex1 sr1 r1 => ?_⟩
        obtain ⟨u, v, t, rfl, r2, r3, r4⟩ := three_rps r1
        exact ⟨u, v, t, rfl, q _ ω1 ex1 sr1 ((((er.mono ex1).set r2).set r3).set r4)⟩
      · cases e1⟩
theorem ev_aug {M : Sem} {i : Nat} {e : Xp} {env : Env} {S : Store} {r : Rs} (h : evS M (.aug i .add e) env S = some r) : ∃ a b S1, env[i]? = some (some (.int a)) ∧ evE M e env S = some (.int b, S1) ∧ r = .next (env.set i (some (.int (a + b)))) S1 := by
  rw [evS] at h
  cases e1 : env[i]? with
  | none => rw [e1] at h; cases h
  | some o =>
    cases o with
    | none => rw [e1] at h; cases h
    | some w =>
      rw [e1] at h
      simp only [Option.join_some] at h
      cases e2 : evE M e env S with
      | none => rw [e2] at h; cases h
      | some z =>
        obtain ⟨y, S1⟩ := z
        rw [e2] at h
        cases w with
        | int a =>
          cases y with
          | int b => exact ⟨a, b, S1, rfl, rfl, (Option.some.inj h).symm⟩
          | _ => cases h
        | _ => cases h
/-- name += e, ints -/
theorem ss_aug {x : Str} {i : Nat} {e : Expr} {ir : Xp} {pos' : Pos} (h1 : Γ.N[i]? = some x) (h2 : locB Γ sc x = true) (he : SE Γ sc e ir) : SS Γ sc fr (.AugAssign (.Name x pos') .Add e pos) (.aug i .add ir) := ⟨fun C M k hc X hx hs => by
  have hl : Loc X.env.scope x ∧ (X.fn x = true ∨ X.env.scope.names.lookup x = some .local) := by
    rw [hx.scp]
    unfold locB at h2
    split at h2
    · rename_i q; exact ⟨.inl q, .inr q⟩
    · rename_i q; exact ⟨.inr q, .inl (hx.fn x (by simpa using h2))⟩
    · cases h2
  refine PS.imp (ps_aug (i := i) (by rw [hx.N]; exact hc.nd) (by rw [hx.N]; exact h1) hl.1 (pe_unf (he.pe C M k hc X hx)) ip_add hl.2) fun D σ H ⟨ω, env, S, r, eH, er, sr, ev, q⟩ => ?_
  obtain ⟨a, b, S1, e1, e2, rfl⟩ := ev_aug ev
  obtain ⟨u, g1, g2⟩ := er.at_ i _ e1
  cases g2
  exact ⟨_, g1, ω, env, S, .int b, S1, eH, er, sr, e2, fun v ω1 ex1 sr1 r1 => by cases r1; exact ⟨a, b, rfl, rfl, q _ ω1 ex1 sr1 ((er.mono ex1).set (.int _))⟩⟩⟩

/-! ### loops -/
theorem ss_for {tg it : Expr} {b : List Stmt} {irt : Xt} {iri : Xi} {irb : Sms} (hi : SI Γ sc tg it iri) (hg : SG Γ sc tg irt) (hb : SSs Γ sc fr b irb) : SS Γ sc fr (.For tg it b [] pos) (.for_ irt iri irb) := ⟨fun C M k hc X hx hs => PS.imp (ps_for hs.pass hx.calm (hi.pi C M k hc X hx) (hg.pg C M k hc X hx) (hb.ps C M k hc X hx hs) (hi.fold _)) fun D σ H ⟨ω, env, S, r, eH, er, sr, ev, q⟩ => by
  rw [evS] at ev
  cases e1 : evI M iri env S with
  | none => rw [e1] at ev; cases ev
  | some z =>
    obtain ⟨xs, S1⟩ := z
    rw [e1] at ev
    have ev : forGo (fun x env S => asgT M irt x env S) (fun env S => evSs M irb env S) xs env S1 = some r := ev
    refine ⟨ω, env, S, xs, S1, eH, er, sr, e1, fun J ω1 ex1 sr1 itw => ?_⟩
    have q1 := q.fwd sr.tr ex1
    refine ⟨fun i m σ H => m = xs.length - i ∧ i ≤ xs.length ∧ ∃ ω2 env2 S2, ω2.H = H ∧ Ext ω1 ω2 ∧ ER X.K ω2 σ env2 ∧ SR X.K ω2 S2 ∧ forGo (fun x env S => asgT M irt x env S) (fun env S => evSs M irb env S) (xs.drop i) env2 S2 = some r,
      ⟨xs.length, rfl, Nat.zero_le _, ω1, env, S1, rfl, .refl _, er.mono ex1, sr1, ev⟩, fun i m σ2 H2 ⟨em, hle, ω2, env2, S2, eH2, ex2, er2, sr2, go⟩ => ?_⟩
    subst eH2
    by_cases hlt : i < xs.length
    · refine .inr ⟨itw.go ω2 i ex2 hlt, fun σ' H' => xs.length - (i + 1) < m ∧ ∃ ω3 env3 S3, ω3.H = H' ∧ Ext ω1 ω3 ∧ ER X.K ω3 σ' env3 ∧ SR X.K ω3 S3 ∧ forGo (fun x env S => asgT M irt x env S) (fun env S => evSs M irb env S) (xs.drop (i + 1)) env3 S3 = some r, fun σ' H' ⟨hm, w⟩ => ⟨_, hm, rfl, hlt, w⟩, fun x H' hy => ?_⟩
      have hm : xs.length - (i + 1) < m := by omega
      obtain ⟨ω3, rfl, ex3, sr3, r3⟩ := itw.yld ω2 S2 i x xs[i] H' ex2 sr2 (List.getElem?_eq_getElem hlt) hy
      rw [List.drop_eq_getElem_cons hlt] at go
      unfold forGo at go
      cases es : asgT M irt xs[i] env2 S2 with
      | none => rw [es] at go; cases go
      | some z =>
        obtain ⟨env4, S4⟩ := z
        rw [es] at go
        have ex13 : Ext ω1 ω3 := .trans sr1.tr ex2 ex3
        refine ⟨ω3, env2, S2, xs[i], env4, S4, rfl, er2.mono ex3, sr3, r3, es, fun σ4 ω4 ex4 sr4 er4 _ => ?_⟩
        have ex14 : Ext ω1 ω4 := .trans sr1.tr ex13 ex4
        cases eb : evSs M irb env4 S4 with
        | none => simp only [eb] at go; cases go
        | some rb =>
          simp only [eb] at go
          refine ⟨ω4, env4, S4, rb, rfl, er4, sr4, eb, ?_⟩
          cases rb with
          | next env5 S5 => exact fun σ5 ω5 ex5 sr5 er5 => ⟨hm, ω5, env5, S5, rfl, .trans sr1.tr ex14 ex5, er5, sr5, go⟩
          | cont env5 S5 => exact fun σ5 ω5 ex5 sr5 er5 => ⟨hm, ω5, env5, S5, rfl, .trans sr1.tr ex14 ex5, er5, sr5, go⟩
          | brk env5 S5 =>
            cases (Option.some.inj go)
            exact fun σ5 ω5 ex5 sr5 er5 => q1 σ5 ω5 (.trans sr1.tr ex14 ex5) sr5 er5
          | ret w S5 =>
            cases (Option.some.inj go)
            exact fun v ω5 ex5 sr5 p5 => q1 v ω5 (.trans sr1.tr ex14 ex5) sr5 (p5.back ex14)
    · have ei : i = xs.length := by omega
      subst ei
      rw [List.drop_length] at go
      have go := Option.some.inj (show some (Rs.next env2 S2) = some r from go)
      subst go
      exact .inl ⟨itw.stop ω2 ex2, q1 σ2 ω2 ex2 sr2 er2⟩⟩
theorem ss_whl {t : Expr} {b : List Stmt} {irt : Xp} {irb : Sms} (ht : SE Γ sc t irt) (hb : SSs Γ sc fr b irb) : SS Γ sc fr (.While t b [] pos) (.whl irt irb) := ⟨fun C M k hc X hx hs => PS.imp (ps_while hs.pass (ht.pt C M k hc X hx) (hb.ps C M k hc X hx hs)) fun D σ H ⟨ω, env, S, r, eH, er, sr, ev, q⟩ => by
  rw [evS] at ev
  refine ⟨fun m σ H => ∃ ω2 env2 S2, ω2.H = H ∧ Ext ω ω2 ∧ ER X.K ω2 σ env2 ∧ SR X.K ω2 S2 ∧ whlGo (fun env S => evT M irt env S) (fun env S => evSs M irb env S) m env2 S2 = some r, ⟨M.fuel, ω, env, S, eH, .refl _, er, sr, ev⟩, fun m σ2 H2 ⟨ω2, env2, S2, eH2, ex2, er2, sr2, go⟩ => ?_⟩
  subst eH2
  cases m with
  | zero => unfold whlGo at go; cases go
  | succ n =>
    unfold whlGo at go
    cases e1 : evT M irt env2 S2 with
    | none => simp only [e1] at go; cases go
    | some z =>
      obtain ⟨c, S3⟩ := z
      simp only [e1] at go
      refine ⟨ω2, env2, S2, c, S3, rfl, er2, sr2, e1, fun ω3 ex3 sr3 => ?_⟩
      have ex03 : Ext ω ω3 := .trans sr.tr ex2 ex3
      cases c with
      | false =>
        cases (Option.some.inj go)
        exact iteF (q σ2 ω3 ex03 sr3 (er2.mono ex3))
      | true =>
        refine iteT ⟨fun σ' H' => ∃ ω4 env4 S4, ω4.H = H' ∧ Ext ω ω4 ∧ ER X.K ω4 σ' env4 ∧ SR X.K ω4 S4 ∧ whlGo (fun env S => evT M irt env S) (fun env S => evSs M irb env S) n env4 S4 = some r, fun σ' H' w => ⟨n, Nat.lt_succ_self n, w⟩, ?_⟩
        cases eb : evSs M irb env2 S3 with
        | none => simp only [eb] at go; cases go
        | some rb =>
          simp only [eb] at go
          refine ⟨ω3, env2, S3, rb, rfl, er2.mono ex3, sr3, eb, ?_⟩
          cases rb with
          | next env5 S5 => exact fun σ5 ω5 ex5 sr5 er5 => ⟨ω5, env5, S5, rfl, .trans sr.tr ex03 ex5, er5, sr5, go⟩
          | cont env5 S5 => exact fun σ5 ω5 ex5 sr5 er5 => ⟨ω5, env5, S5, rfl, .trans sr.tr ex03 ex5, er5, sr5, go⟩
          | brk env5 S5 =>
            cases (Option.some.inj go)
            exact fun σ5 ω5 ex5 sr5 er5 => q σ5 ω5 (.trans sr.tr ex03 ex5) sr5 er5
          | ret w S5 =>
            cases (Option.some.inj go)
            exact fun v ω5 ex5 sr5 p5 => q v ω5 (.trans sr.tr ex03 ex5) sr5 (p5.back ex03)⟩
end
end Rf

namespace Rf
open PySem PySem.Spec L2

/-! ### what the stores' order hangs on -/
def swB (sc : Scope) (ts vs : List Expr) : Option (Option (List Str)) :=
  if (!(ts.length == 2 || ts.length == 3) || vs.length != ts.length) = true then some none
  else if (vs.any fun | .Starred .. => true | _ => false) = true then some none
  else
    let names := ts.filterMap fun
      | .Name id pos => if (sc.names.lookup id == some .local && pos.line == ((ts.head?.map (·.pos.line)).getD 0)) = true then some id else none
      | _ => none
    if (names.length != ts.length || names.eraseDups.length != names.length) = true then some none
    else if vs.all (foldedForSure 8) = true then some none
    else if vs.all (constantsAlone 8) = true then none
    else some (some names)
theorem swB_ok {sc : Scope} {ts vs : List Expr} {r : Option (List Str)} {kt k2 : Nat} {pt pt2 : Pos} (h : swB sc ts vs = some r) {X : Cx} (h1 : X.env.scope = sc) (h2 : X.env.blockKind = .function) : swappedStores [.Tuple ts kt pt] (.Tuple vs k2 pt2) X.env = pure r := by
  subst h1
  unfold swB at h
  unfold swappedStores
  simp only [h2, bne_self_eq_false, Bool.or_false]
  split at h
  · rename_i c
    cases (Option.some.inj h); exact if_pos c
  · rename_i c
    refine (if_neg c).trans ?_
    split at h
    · rename_i c2
      cases (Option.some.inj h); exact if_pos c2
    · rename_i c2
      refine (if_neg c2).trans ?_
      have e : ∀ id, X.env.kindOf id = X.env.scope.names.lookup id := fun _ => rfl
      simp only [e]
      dsimp only at h
      split at h
      · rename_i c3
        cases (Option.some.inj h); exact if_pos c3
      · rename_i c3
        refine (if_neg c3).trans ?_
        split at h
        · rename_i c4
          cases (Option.some.inj h); exact if_pos c4
        · rename_i c4
          refine (if_neg c4).trans ?_
          split at h
          · cases h
          · rename_i c5
            cases (Option.some.inj h); exact if_neg c5
end Rf

namespace Rf
open PySem PySem.Spec L2

abbrev Ck (p : Prop) := Option (PLift p)
def mkOwn (N : List Str) (own : List Nat) : List (Str × Nat) := own.map fun i => ((N[i]?).getD ⟨#[]⟩, i)
theorem mkOwn_eq (N : List Str) (own : List Nat) : (mkOwn N own).map (·.2) = own := by
  unfold mkOwn
  rw [List.map_map]
  exact List.map_id' own
def isSlice : Expr → Bool
  | .Slice .. => true
  | _ => false
theorem sub_assign {o i : Expr} {pos : Pos} (h : isSlice i = false) (env : PySem.Env) (v : Value) : assign (.Subscript o i pos) env v = (do
      let ov ← holding [v] (eval o env)
      let iv ← holding [v, ov] (eval i env)
      standAt pos
      holding [v, ov, iv] (setItem ov iv v)
      release [v, ov, iv] []) := by
  cases i <;> first | rfl | exact Bool.noConfusion h
def ckTy (Γ : Gm) (sc : Scope) : (ts : List String) → (es : List Expr) → Ck (STy Γ sc es ts)
  | [], es => match es with
    | [] => some ⟨sty_nil⟩
    | _ => none
  | t :: ts, es => match es with
    | .Name x p :: r => match ckTy Γ sc ts r with
      | some q => if h : t ∈ tyNames ∧ x = Str.ofString t ∧ glB sc (Str.ofString t) = true then some ⟨by obtain ⟨h1, h2, h3⟩ := h; subst h2; exact sty_cons h1 h3 q.down⟩ else none
      | none => none
    | _ => none
def dbg (x : Str) : Bool := (x == ("__debug__" : Str)) || (x == ("__classdict__" : Str))
theorem dbg_of {x : Str} (h : dbg x = false) : (x == ("__debug__" : Str)) = false ∧ (x == ("__classdict__" : Str)) = false := by
  unfold dbg at h
  rw [Bool.or_eq_false_iff] at h
  exact h
mutual
def ckE : (ir : Xp) → (Γ : Gm) → (sc : Scope) → (e : Expr) → Ck (SE Γ sc e ir)
  | .var i, Γ, sc, e => match e with
    | .Name x pos => if h : Γ.N[i]? = some x ∧ visB sc x = true ∧ dbg x = false then some ⟨se_var h.1 h.2.1 (dbg_of h.2.2).1 (dbg_of h.2.2).2⟩ else none
    | _ => none
  | .cst w, Γ, sc, e => match e with
    | .Constant c j pos => match c with
      | .int i => match w with
        | .int k => if h : i = k then some ⟨by subst h; exact se_int⟩ else none
        | _ => none
      | .bool b => match w with
        | .bl k => if h : b = k then some ⟨by subst h; exact se_bl⟩ else none
        | _ => none
      | .str b => match w with
        | .str k => if h : b = k then some ⟨by subst h; exact se_str⟩ else none
        | _ => none
      | .none => match w with
        | .non => some ⟨se_non⟩
        | _ => none
      | _ => none
    | _ => none
  | .con c, Γ, sc, e => match e with
    | .Name x pos => if h : Γ.cons[c]? = some x ∧ glB sc x = true ∧ dbg x = false then some ⟨se_con h.1 (gl_of h.2.1) (dbg_of h.2.2).1⟩ else none
    | _ => none
  | .tup es, Γ, sc, e => match e with
    | .Tuple xs j pos => match ckEs es Γ sc xs with
      | some q => some ⟨se_tup q.down⟩
      | none => none
    | _ => none
  | .lst es, Γ, sc, e => match e with
    | .List xs pos => match ckEs es Γ sc xs with
      | some q => some ⟨se_lst q.down⟩
      | none => none
    | _ => none
  | .edict, Γ, sc, e => match e with
    | .Dict ks vs pos => match ks, vs with
      | [], [] => some ⟨se_edict⟩
      | _, _ => none
    | _ => none
  | .bin op a b, Γ, sc, e => match e with
    | .BinOp x o y pos => if h : o = bopOf op then match ckE a Γ sc x, ckE b Γ sc y with
        | some p, some q => some ⟨by subst h; exact se_bin p.down q.down⟩
        | _, _ => none
      else none
    | _ => none
  | .neg a, Γ, sc, e => match e with
    | .UnaryOp o x pos => match o with
      | .USub => match ckE a Γ sc x with
        | some p => some ⟨se_neg p.down⟩
        | none => none
      | _ => none
    | _ => none
  | .nott a, Γ, sc, e => match e with
    | .UnaryOp o x pos => match o with
      | .Not => match ckE a Γ sc x with
        | some p => some ⟨se_not p.down⟩
        | none => none
      | _ => none
    | _ => none
  | .cmp op a b, Γ, sc, e => match e with
    | .Compare x os ys pos => match os, ys with
      | [o], [y] => if h : o = copOf op then match ckE a Γ sc x, ckE b Γ sc y with
          | some p, some q => some ⟨by subst h; exact se_cmp p.down q.down⟩
          | _, _ => none
        else none
      | _, _ => none
    | _ => none
  | .chain op op' a b c, Γ, sc, e => match e with
    | .Compare x os ys pos => match os, ys with
      | [o, o'], [y, z] => if h : o = copOf op ∧ o' = copOf op' then match ckE a Γ sc x, ckE b Γ sc y, ckE c Γ sc z with
          | some p, some q, some r => some ⟨by obtain ⟨h1, h2⟩ := h; subst h1; subst h2; exact se_chain p.down q.down r.down⟩
          | _, _, _ => none
        else none
      | _, _ => none
    | _ => none
  | .andd a b, Γ, sc, e => match e with
    | .BoolOp o es pos => match o, es with
      | .And, x :: y :: r => match r with
        | [] => match ckE a Γ sc x, ckE b Γ sc y with
          | some p, some q => some ⟨se_bool (sb_and p.down (sb_one q.down)) rfl⟩
          | _, _ => none
        | z :: r => match ckE a Γ sc x, ckB b Γ sc .And (y :: z :: r) with
          | some p, some q => some ⟨se_bool (sb_and p.down q.down) rfl⟩
          | _, _ => none
      | _, _ => none
    | _ => none
  | .orr a b, Γ, sc, e => match e with
    | .BoolOp o es pos => match o, es with
      | .Or, x :: y :: r => match r with
        | [] => match ckE a Γ sc x, ckE b Γ sc y with
          | some p, some q => some ⟨se_bool (sb_or p.down (sb_one q.down)) rfl⟩
          | _, _ => none
        | z :: r => match ckE a Γ sc x, ckB b Γ sc .Or (y :: z :: r) with
          | some p, some q => some ⟨se_bool (sb_or p.down q.down) rfl⟩
          | _, _ => none
      | _, _ => none
    | _ => none
  | .ite t a b, Γ, sc, e => match e with
    | .IfExp u x y pos => match ckE t Γ sc u, ckE a Γ sc x, ckE b Γ sc y with
      | some p, some q, some r => some ⟨se_ite p.down q.down r.down⟩
      | _, _, _ => none
    | _ => none
  | .sub a i, Γ, sc, e => match e with
    | .Subscript x y pos => match ckE a Γ sc x, ckE i Γ sc y with
      | some p, some q => some ⟨se_sub p.down q.down⟩
      | _, _ => none
    | _ => none
  | .omit, _, _, _ => none
  | .slc a hl lo hh hi, Γ, sc, e => match e with
    | .Subscript x y pos => match y with
      | .Slice l h st p2 => match st with
        | none => match ckE a Γ sc x, ckO lo Γ sc l hl, ckO hi Γ sc h hh with
          | some p, some q, some r => some ⟨se_slc p.down q.down r.down⟩
          | _, _, _ => none
        | some _ => none
      | _ => none
    | _ => none
  | .comp elt tg it ifs own, Γ, sc, e => match e with
    | .ListComp el gs scope pos => match gs with
      | [⟨t, i, fs, isa⟩] => if h : isa = 0 ∧ blkC Γ.N sc scope (mkOwn Γ.N own) = true ∧ (tg.vars.all fun i => decide (i ∈ own)) = true then
          match ckI it Γ sc t i, ckT tg (Γ.blk scope) (relS scope sc) t, ckIfs ifs (Γ.blk scope) (relS scope sc) fs, ckE elt (Γ.blk scope) (relS scope sc) el with
          | some p, some q, some r, some s => some ⟨by
              obtain ⟨h1, h2, h3⟩ := h
              subst h1
              have := se_comp (own := mkOwn Γ.N own) (pos := pos) p.down h2 (by rw [mkOwn_eq]; exact h3) q.down r.down s.down
              rw [mkOwn_eq] at this
              exact this⟩
          | _, _, _, _ => none
        else none
      | _ => none
    | _ => none
  | .call f args, Γ, sc, e => match e with
    | .Call fn es kws pos => match fn, kws with
      | .Name x p, [] => match hp : Γ.pars[f]? with
        | some ps => match es with
          | [] => if h : Γ.fns[f]? = some x ∧ ps = [] ∧ glB sc x = true ∧ dbg x = false then match args with
              | .nil => some ⟨se_call0 h.1 (by rw [hp, h.2.1]) h.2.2.1 (dbg_of h.2.2.2).1⟩
              | .cons _ _ => none
            else none
          | y :: ys => if h : Γ.fns[f]? = some x ∧ args.len = ps.length ∧ glB sc x = true ∧ dbg x = false then match ckEs args Γ sc (y :: ys) with
              | some q => some ⟨se_call h.1 hp h.2.1 h.2.2.1 (dbg_of h.2.2.2).1 q.down⟩
              | none => none
            else none
        | none => none
      | _, _ => none
    | _ => none
  | .callS f args, Γ, sc, e => match e with
    | .Call fn es kws pos => match fn, kws with
      | .Name x p, [] => match hp : Γ.pars[f]? with
        | some ps => match es with
          | [] => none
          | y :: ys => if h : Γ.fns[f]? = some x ∧ args.len = ps.length ∧ glB sc x = true ∧ dbg x = false then match ckEs args Γ sc (y :: ys) with
              | some q => some ⟨se_callS h.1 hp h.2.1 h.2.2.1 (dbg_of h.2.2.2).1 q.down⟩
              | none => none
            else none
        | none => none
      | _, _ => none
    | _ => none
  | .callK f args ks kargs, Γ, sc, e => match e with
    | .Call fn es kws pos => match fn, es with
      | .Name x p, [] => match hp : Γ.pars[f]? with
        | some ps => if h : Γ.fns[f]? = some x ∧ (f, kws.filterMap (·.arg), ks) ∈ Γ.kws ∧ ks.length = ps.length ∧ kargs.len = (kws.filterMap (·.arg)).length ∧ glB sc x = true ∧ dbg x = false then match args, ckK kargs Γ sc kws with
            | .nil, some q => some ⟨se_callK h.1 hp h.2.1 h.2.2.1 h.2.2.2.1 h.2.2.2.2.1 (dbg_of h.2.2.2.2.2).1 q.down⟩
            | _, _ => none
          else none
        | none => none
      | _, _ => none
    | _ => none
  | .blt b args, Γ, sc, e => match e with
    | .Call fn es kws pos => match fn, kws with
      | .Name x p, [] => match es with
        | [] => none
        | y :: ys => if h : x = bltNm b ∧ (modB b = false ∨ b ∈ Γ.mods) ∧ glB sc (bltNm b) = true then match ckEs args Γ sc (y :: ys) with
            | some q => some ⟨by obtain ⟨h1, h2, h3⟩ := h; subst h1; exact se_blt h2 h3 q.down⟩
            | none => none
          else none
      | _, _ => none
    | _ => none
  | .isi a ts, Γ, sc, e => match e with
    | .Call fn es kws pos => match fn, kws with
      | .Name x p, [] => match es with
        | [y, t] => if h : x = ("isinstance" : Str) ∧ glB sc "isinstance" = true then match ckE a Γ sc y with
            | some q => match t with
              | .Name u p2 => match ts with
                | [n] => if h2 : n ∈ tyNames ∧ u = Str.ofString n ∧ glB sc (Str.ofString n) = true then some ⟨by obtain ⟨h1, h3⟩ := h; obtain ⟨h4, h5, h6⟩ := h2; subst h1; subst h5; exact se_isi1 q.down h3 h4 h6⟩ else none
                | _ => none
              | .Tuple us kk p2 => match ckTy Γ sc ts us with
                | some r => if h2 : ts ≠ [] ∧ ts.length < 20 then some ⟨by obtain ⟨h1, h3⟩ := h; subst h1; exact se_isiT q.down h3 r.down h2.1 h2.2⟩ else none
                | none => none
              | _ => none
            | none => none
          else none
        | _ => none
      | _, _ => none
    | _ => none
  | .meth m o args, Γ, sc, e => match e with
    | .Call fn es kws pos => match fn, kws with
      | .Attribute ob nm apos, [] => match ob with
        | .Name x px => if h : nm = mthNm m ∧ (apos.endLine == pos.line) = true then match ckE o Γ sc (.Name x px) with
            | some q => match es, args with
              | [], .nil => some ⟨by obtain ⟨h1, h2⟩ := h; subst h1; exact se_meth0 q.down h2⟩
              | [y], .cons a .nil => match ckE a Γ sc y with
                | some r => some ⟨by obtain ⟨h1, h2⟩ := h; subst h1; exact se_meth1 q.down r.down h2⟩
                | none => none
              | _, _ => none
            | none => none
          else none
        | _ => none
      | _, _ => none
    | _ => none
  | .thaw a, Γ, sc, e => if h : plainTest e = true then match ckE a Γ sc e with
      | some q => some ⟨se_thaw h q.down⟩
      | none => none
    else none
  | .frz a, Γ, sc, e => if h : plainTest e = true then match ckE a Γ sc e with
      | some q => some ⟨se_frz h q.down⟩
      | none => none
    else none
  | .cat a b, Γ, sc, e => match e with
    | .BinOp x o y pos => if h : o = .Add then match ckE a Γ sc x, ckE b Γ sc y with
        | some p, some q => some ⟨by subst h; exact se_cat p.down q.down⟩
        | _, _ => none
      else none
    | _ => none
  | .repr a, Γ, sc, e => match e with
    | .Call fn es kws pos => match fn, es, kws with
      | .Name x p, [y], [] => if h : x = ("repr" : Str) ∧ glB sc "repr" = true then match ckE a Γ sc y with
          | some q => some ⟨by obtain ⟨h1, h2⟩ := h; subst h1; exact se_repr q.down h2⟩
          | none => none
        else none
      | _, _, _ => none
    | _ => none
def ckB : (ir : Xp) → (Γ : Gm) → (sc : Scope) → (o : BoolOp) → (es : List Expr) → Ck (SB Γ sc o es ir)
  | .andd a b, Γ, sc, o, es => match o, es with
    | .And, x :: y :: r => match r with
      | [] => match ckE a Γ sc x, ckE b Γ sc y with
        | some p, some q => some ⟨sb_and p.down (sb_one q.down)⟩
        | _, _ => none
      | z :: r => match ckE a Γ sc x, ckB b Γ sc .And (y :: z :: r) with
        | some p, some q => some ⟨sb_and p.down q.down⟩
        | _, _ => none
    | _, _ => none
  | .orr a b, Γ, sc, o, es => match o, es with
    | .Or, x :: y :: r => match r with
      | [] => match ckE a Γ sc x, ckE b Γ sc y with
        | some p, some q => some ⟨sb_or p.down (sb_one q.down)⟩
        | _, _ => none
      | z :: r => match ckE a Γ sc x, ckB b Γ sc .Or (y :: z :: r) with
        | some p, some q => some ⟨sb_or p.down q.down⟩
        | _, _ => none
    | _, _ => none
  | _, _, _, _, _ => none
def ckO : (ir : Xp) → (Γ : Gm) → (sc : Scope) → (e : Option Expr) → (h : Bool) → Ck (SO Γ sc e h ir)
  | .omit, Γ, sc, e, h => match e, h with
    | none, false => some ⟨so_none⟩
    | _, _ => none
  | .cst w, Γ, sc, e, h => match e, h with
    | some (.Constant c j pos), true => match c with
      | .int i => match w with
        | .int k => if h : i = k then some ⟨by subst h; exact so_some se_int⟩ else none
        | _ => none
      | _ => none
    | _, _ => none
  | .neg a, Γ, sc, e, h => match e, h with
    | some (.UnaryOp o x pos), true => match o with
      | .USub => match ckE a Γ sc x with
        | some p => some ⟨so_some (se_neg p.down)⟩
        | none => none
      | _ => none
    | _, _ => none
  | .var i, Γ, sc, e, h => match e, h with
    | some (.Name x pos), true => if h : Γ.N[i]? = some x ∧ visB sc x = true ∧ dbg x = false then some ⟨so_some (se_var h.1 h.2.1 (dbg_of h.2.2).1 (dbg_of h.2.2).2)⟩ else none
    | _, _ => none
  | .bin op a b, Γ, sc, e, h => match e, h with
    | some (.BinOp x o y pos), true => if h : o = bopOf op then match ckE a Γ sc x, ckE b Γ sc y with
        | some p, some q => some ⟨by subst h; exact so_some (se_bin p.down q.down)⟩
        | _, _ => none
      else none
    | _, _ => none
  | .blt b args, Γ, sc, e, h => match e, h with
    | some (.Call fn es kws pos), true => match fn, kws with
      | .Name x p, [] => match es with
        | [] => none
        | y :: ys => if h : x = bltNm b ∧ (modB b = false ∨ b ∈ Γ.mods) ∧ glB sc (bltNm b) = true then match ckEs args Γ sc (y :: ys) with
            | some q => some ⟨by obtain ⟨h1, h2, h3⟩ := h; subst h1; exact so_some (se_blt h2 h3 q.down)⟩
            | none => none
          else none
      | _, _ => none
    | _, _ => none
  | .sub a i, Γ, sc, e, h => match e, h with
    | some (.Subscript x y pos), true => match ckE a Γ sc x, ckE i Γ sc y with
      | some p, some q => some ⟨so_some (se_sub p.down q.down)⟩
      | _, _ => none
    | _, _ => none
  | _, _, _, _, _ => none
def ckEs : (irs : Xps) → (Γ : Gm) → (sc : Scope) → (es : List Expr) → Ck (SEs Γ sc es irs)
  | .nil, Γ, sc, es => match es with
    | [] => some ⟨ses_nil⟩
    | _ => none
  | .cons a r, Γ, sc, es => match es with
    | x :: xs => match ckE a Γ sc x, ckEs r Γ sc xs with
      | some p, some q => some ⟨ses_cons p.down q.down⟩
      | _, _ => none
    | [] => none
def ckIfs : (irs : Xps) → (Γ : Gm) → (sc : Scope) → (es : List Expr) → Ck (STs Γ sc es irs)
  | .nil, Γ, sc, es => match es with
    | [] => some ⟨sts_nil⟩
    | _ => none
  | .cons a r, Γ, sc, es => match es with
    | [x] => match r with
      | .nil => match ckE a Γ sc x with
        | some p => some ⟨sts_one p.down⟩
        | none => none
      | _ => none
    | _ => none
def ckK : (irs : Xps) → (Γ : Gm) → (sc : Scope) → (ks : List Keyword) → Ck (SKs Γ sc ks (ks.filterMap (·.arg)) irs)
  | .nil, Γ, sc, ks => match ks with
    | [] => some ⟨sks_nil⟩
    | _ => none
  | .cons a r, Γ, sc, ks => match ks with
    | ⟨some x, e, kpos⟩ :: ks => match ckE a Γ sc e, ckK r Γ sc ks with
      | some p, some q => some ⟨sks_cons p.down q.down⟩
      | _, _ => none
    | _ => none
def ckI : (ir : Xi) → (Γ : Gm) → (sc : Scope) → (tg e : Expr) → Ck (SI Γ sc tg e ir)
  | .seq a, Γ, sc, tg, e => match ckE a Γ sc e with
    | some p => some ⟨si_seq p.down⟩
    | none => none
  | .range1 a, Γ, sc, tg, e => match e with
    | .Call fn es kws pos => match fn, es, kws with
      | .Name x p, [y], [] => if h : x = ("range" : Str) ∧ glB sc "range" = true then match ckE a Γ sc y with
          | some q => some ⟨by obtain ⟨h1, h2⟩ := h; subst h1; exact si_range1 q.down h2⟩
          | none => none
        else none
      | _, _, _ => none
    | _ => none
  | .range2 a b, Γ, sc, tg, e => match e with
    | .Call fn es kws pos => match fn, es, kws with
      | .Name x p, [y, z], [] => if h : x = ("range" : Str) ∧ glB sc "range" = true then match ckE a Γ sc y, ckE b Γ sc z with
          | some q, some r => some ⟨by obtain ⟨h1, h2⟩ := h; subst h1; exact si_range2 q.down r.down h2⟩
          | _, _ => none
        else none
      | _, _, _ => none
    | _ => none
  | .zip2 a b, Γ, sc, tg, e => match tg, e with
    | .Tuple ts kk tp, .Call fn es kws pos => match fn, es, kws with
      | .Name x p, [y, z], [] => if h : x = ("zip" : Str) ∧ glB sc "zip" = true then match ckE a Γ sc y, ckE b Γ sc z with
          | some q, some r => some ⟨by obtain ⟨h1, h2⟩ := h; subst h1; exact si_zip2 q.down r.down h2⟩
          | _, _ => none
        else none
      | _, _, _ => none
    | _, _ => none
  | .zip3 a b c, Γ, sc, tg, e => match tg, e with
    | .Tuple ts kk tp, .Call fn es kws pos => match fn, es, kws with
      | .Name x p, [y, z, u], [] => if h : x = ("zip" : Str) ∧ glB sc "zip" = true then match ckE a Γ sc y, ckE b Γ sc z, ckE c Γ sc u with
          | some q, some r, some s => some ⟨by obtain ⟨h1, h2⟩ := h; subst h1; exact si_zip3 q.down r.down s.down h2⟩
          | _, _, _ => none
        else none
      | _, _, _ => none
    | _, _ => none
  | .enum a, Γ, sc, tg, e => match tg, e with
    | .Tuple ts kk tp, .Call fn es kws pos => match fn, es, kws with
      | .Name x p, [y], [] => if h : x = ("enumerate" : Str) ∧ glB sc "enumerate" = true then match ckE a Γ sc y with
          | some q => some ⟨by obtain ⟨h1, h2⟩ := h; subst h1; exact si_enum q.down h2⟩
          | none => none
        else none
      | _, _, _ => none
    | _, _ => none
def ckT : (ir : Xt) → (Γ : Gm) → (sc : Scope) → (e : Expr) → Ck (SG Γ sc e ir)
  | .name i, Γ, sc, e => match e with
    | .Name x pos => if h : Γ.N[i]? = some x ∧ locB Γ sc x = true then some ⟨sg_name h.1 h.2⟩ else none
    | _ => none
  | .tup ts, Γ, sc, e => match e with
    | .Tuple xs kk pos => match ckTs ts Γ sc xs with
      | some q => some ⟨sg_tup q.down⟩
      | none => none
    | _ => none
  | .sub o i, Γ, sc, e => match e with
    | .Subscript x y pos => if h : isSlice y = false then match ckE o Γ sc x, ckE i Γ sc y with
        | some p, some q => some ⟨sg_sub p.down q.down (sub_assign h)⟩
        | _, _ => none
      else none
    | _ => none
def ckTs : (irs : Xts) → (Γ : Gm) → (sc : Scope) → (es : List Expr) → Ck (SGs Γ sc es irs)
  | .nil, Γ, sc, es => match es with
    | [] => some ⟨sgs_nil⟩
    | _ => none
  | .cons a r, Γ, sc, es => match es with
    | x :: xs => match ckT a Γ sc x, ckTs r Γ sc xs with
      | some p, some q => some ⟨sgs_cons p.down q.down⟩
      | _, _ => none
    | [] => none
end
end Rf

namespace Rf
open PySem PySem.Spec L2

def isLC : Expr → Bool
  | .ListComp .. => true
  | _ => false
theorem notLC {e : Expr} (h : isLC e = false) : ∀ a b c d, e ≠ .ListComp a b c d := by
  intro a b c d z; subst z; exact Bool.noConfusion h
/-- no block of the value stores the target itself -/
def swOff (sc : Scope) (t e : Expr) : Bool := match e with
  | .ListComp _ _ scope pos => match t with
    | .Name y py => !((sc.names.lookup y == some .local) && (py.line == pos.line) && !(scope.names.any fun (n, k) => n == y && (k == .local || k == .cell)))
    | _ => true
  | .SetComp .. => false
  | .DictComp .. => false
  | _ => true
theorem swOff_ok {sc : Scope} {t e : Expr} (h : swOff sc t e = true) (l : Nat) (X : Cx) (h1 : X.env.scope = sc) : swapsWithSole [t] e l X.env = pure false := by
  cases e with
  | ListComp el gs scope pos =>
    cases t with
    | Name y py =>
      subst h1
      show (pure (X.env.blockKind == .function && X.env.kindOf y == some .local && py.line == pos.line && !(scope.names.any fun (n, k) => n == y && (k == .local || k == .cell))) : PySem.Sem Bool) = pure false
      have h : (!((X.env.kindOf y == some .local) && (py.line == pos.line) && !(scope.names.any fun (n, k) => n == y && (k == .local || k == .cell)))) = true := h
      congr 1
      rw [Bool.not_eq_true'] at h
      rw [show (X.env.blockKind == .function && X.env.kindOf y == some .local && py.line == pos.line && !(scope.names.any fun (n, k) => n == y && (k == .local || k == .cell))) = (X.env.blockKind == .function && (X.env.kindOf y == some .local && py.line == pos.line && !(scope.names.any fun (n, k) => n == y && (k == .local || k == .cell)))) from by simp only [Bool.and_assoc], h, Bool.and_false]
    | _ => rfl
  | SetComp _ _ _ _ => exact Bool.noConfusion h
  | DictComp _ _ _ _ _ => exact Bool.noConfusion h
  | _ => rfl
/-- the stores go one behind the other as written -/
def ordOff (sc : Scope) (t e : Expr) : Bool := match e with
  | .Tuple vs _ _ => match t with
    | .Tuple ts _ _ => (match swB sc ts vs with | some none => true | _ => false)
    | .List .. => false
    | _ => true
  | _ => true
theorem ordOff_ok {sc : Scope} {t e : Expr} (h : ordOff sc t e = true) (X : Cx) (h1 : X.env.scope = sc) (h2 : X.env.blockKind = .function) : swappedStores [t] e X.env = pure none := by
  cases e with
  | Tuple vs k p =>
    cases t with
    | Tuple ts k2 p2 =>
      unfold ordOff at h
      dsimp only at h
      split at h
      · rename_i q; exact swB_ok q h1 h2
      · cases h
    | List _ _ => exact Bool.noConfusion h
    | _ => rfl
  | _ => cases t <;> rfl
def ckAsg (irt : Xt) (ir : Xp) (Γ : Gm) (sc : Scope) (fr : Bool) (t e : Expr) (pos : Pos) : Ck (SS Γ sc fr (.Assign [t] e pos) (.asg irt ir)) :=
  if h : swOff sc t e = true ∧ ordOff sc t e = true then match ckT irt Γ sc t, ckE ir Γ sc e with
    | some p, some q => some ⟨ss_asg p.down q.down (fun X h1 _ => swOff_ok h.1 _ X h1) (fun X h1 h2 => ordOff_ok h.2 X h1 h2)⟩
    | _, _ => none
  else none
def ckPar (irt : Xt) (ir : Xp) (Γ : Gm) (sc : Scope) (fr : Bool) (t e : Expr) (pos : Pos) : Ck (SS Γ sc fr (.Assign [t] e pos) (.asg irt ir)) := match t, e with
  | .Tuple ts kt pt, .Tuple vs k2 pt2 => match ts, vs with
    | [.Name x px, .Name y py], [a, b] => match irt, ir with
      | .tup (.cons (.name i) (.cons (.name j) .nil)), .tup (.cons ira (.cons irb .nil)) => if h : Γ.N[i]? = some x ∧ Γ.N[j]? = some y ∧ i ≠ j ∧ sc.names.lookup x = some .local ∧ sc.names.lookup y = some .local ∧ swB sc [.Name x px, .Name y py] [a, b] = some (some [x, y]) then match ckE ira Γ sc a, ckE irb Γ sc b with
          | some p, some q => some ⟨ss_par2 h.1 h.2.1 h.2.2.1 h.2.2.2.1 h.2.2.2.2.1 p.down q.down fun X h1 h2 => swB_ok h.2.2.2.2.2 h1 h2⟩
          | _, _ => none
        else none
      | _, _ => none
    | [.Name x px, .Name y py, .Name z pz], [a, b, c] => match irt, ir with
      | .tup (.cons (.name i) (.cons (.name j) (.cons (.name l) .nil))), .tup (.cons ira (.cons irb (.cons irc .nil))) => if h : (Γ.N[i]? = some x ∧ Γ.N[j]? = some y ∧ Γ.N[l]? = some z) ∧ (i ≠ j ∧ i ≠ l ∧ j ≠ l) ∧ (sc.names.lookup x = some .local ∧ sc.names.lookup y = some .local ∧ sc.names.lookup z = some .local) ∧ swB sc [.Name x px, .Name y py, .Name z pz] [a, b, c] = some (some [x, y, z]) then match ckE ira Γ sc a, ckE irb Γ sc b, ckE irc Γ sc c with
          | some p, some q, some r => some ⟨ss_par3 h.1.1 h.1.2.1 h.1.2.2 h.2.1.1 h.2.1.2.1 h.2.1.2.2 h.2.2.1.1 h.2.2.1.2.1 h.2.2.1.2.2 p.down q.down r.down fun X h1 h2 => swB_ok h.2.2.2 h1 h2⟩
          | _, _, _ => none
        else none
      | _, _ => none
    | _, _ => none
  | _, _ => none
def lcParts : Xp → Option (Bool × Xp × Xt × Xi × Xps × List Nat)
  | .comp ire irt iri irf own => some (false, ire, irt, iri, irf, own)
  | .thaw (.comp ire irt iri irf own) => some (true, ire, irt, iri, irf, own)
  | _ => none
theorem lcParts_eq {ir ire : Xp} {th : Bool} {irt : Xt} {iri : Xi} {irf : Xps} {own : List Nat} (h : lcParts ir = some (th, ire, irt, iri, irf, own)) : ir = if th = true then .thaw (.comp ire irt iri irf own) else .comp ire irt iri irf own := by
  unfold lcParts at h
  split at h
  · cases (Option.some.inj h); rfl
  · cases (Option.some.inj h); rfl
  · cases h
def ckLc (irt0 : Xt) (ir : Xp) (Γ : Gm) (sc : Scope) (fr : Bool) (t e : Expr) (pos : Pos) : Ck (SS Γ sc fr (.Assign [t] e pos) (.asg irt0 ir)) := match t, e with
  | .Name y py, .ListComp el gs scope pos' => match gs with
    | [⟨tg, it, fs, isa⟩] => match irt0 with
      | .name j => match hl : lcParts ir with
        | some (th, ire, irt, iri, irf, own) => if h : (isa = 0 ∧ blkC Γ.N sc scope (mkOwn Γ.N own) = true ∧ (irt.vars.all fun i => decide (i ∈ own)) = true) ∧ Γ.N[j]? = some y ∧ sc.names.lookup y = some .local ∧ sc.kind = .function ∧ (py.line == pos'.line) = true ∧ (scope.names.any fun (n, k) => n == y && (k == .local || k == .cell)) = false then
            match ckI iri Γ sc tg it, ckT irt (Γ.blk scope) (relS scope sc) tg, ckIfs irf (Γ.blk scope) (relS scope sc) fs, ckE ire (Γ.blk scope) (relS scope sc) el with
            | some p, some q, some r, some s => some ⟨by
                obtain ⟨⟨h1, h2, h3⟩, h4, h5, h6, h7, h8⟩ := h
                subst h1
                have := ss_setLc (fr := fr) (own := mkOwn Γ.N own) (pos := pos) th h4 h5 h6 h7 h8 p.down h2 (by rw [mkOwn_eq]; exact h3) q.down r.down s.down
                rw [mkOwn_eq, ← lcParts_eq hl] at this
                exact this⟩
            | _, _, _, _ => none
          else none
        | none => none
      | _ => none
    | _ => none
  | _, _ => none
mutual
def ckS : (ir : Sm) → (Γ : Gm) → (sc : Scope) → (fr : Bool) → (st : Stmt) → Ck (SS Γ sc fr st ir)
  | .asg irt ir, Γ, sc, fr, st => match st with
    | .Assign ts e pos => match ts with
      | [t] => (ckAsg irt ir Γ sc fr t e pos).orElse fun _ => (ckLc irt ir Γ sc fr t e pos).orElse fun _ => ckPar irt ir Γ sc fr t e pos
      | _ => none
    | _ => none
  | .expr ir, Γ, sc, fr, st => match st with
    | .Expr e pos => if h : isLC e = false then match ckE ir Γ sc e with
        | some q => some ⟨ss_expr q.down (notLC h)⟩
        | none => none
      else none
    | _ => none
  | .ret ir, Γ, sc, fr, st => match st with
    | .Return oe pos => match oe with
      | some e => match ckE ir Γ sc e with
        | some q => match fr with
          | false => some ⟨ss_ret q.down⟩
          | true => if h : newX (fun _ => false) ir = true then some ⟨ss_retF h q.down⟩ else none
        | none => none
      | none => none
    | _ => none
  | .retN, Γ, sc, fr, st => match st with
    | .Return oe pos => match oe, fr with
      | none, false => some ⟨ss_retN⟩
      | _, _ => none
    | _ => none
  | .iff t a b, Γ, sc, fr, st => match st with
    | .If u x y pos => match ckE t Γ sc u, ckSs a Γ sc fr x, ckSs b Γ sc fr y with
      | some p, some q, some r => some ⟨ss_if p.down q.down r.down⟩
      | _, _, _ => none
    | _ => none
  | .for_ t it b, Γ, sc, fr, st => match st with
    | .For tg i x el pos => match el with
      | [] => match ckI it Γ sc tg i, ckT t Γ sc tg, ckSs b Γ sc fr x with
        | some p, some q, some r => some ⟨ss_for p.down q.down r.down⟩
        | _, _, _ => none
      | _ => none
    | _ => none
  | .whl t b, Γ, sc, fr, st => match st with
    | .While u x el pos => match el with
      | [] => match ckE t Γ sc u, ckSs b Γ sc fr x with
        | some p, some q => some ⟨ss_whl p.down q.down⟩
        | _, _ => none
      | _ => none
    | _ => none
  | .cont, Γ, sc, fr, st => match st with
    | .Continue pos => some ⟨ss_cont⟩
    | _ => none
  | .brk, Γ, sc, fr, st => match st with
    | .Break pos => some ⟨ss_brk⟩
    | _ => none
  | .pass, Γ, sc, fr, st => match st with
    | .Pass pos => some ⟨ss_pass⟩
    | .Expr e pos => match e with
      | .Constant c j p2 => match c with
        | .str x => some ⟨ss_doc⟩
        | _ => none
      | _ => none
    | _ => none
  | .never, Γ, sc, fr, st => some ⟨ss_never⟩
  | .aug i op ir, Γ, sc, fr, st => match st with
    | .AugAssign t o e pos => match t, o, op with
      | .Name x p2, .Add, .add => if h : Γ.N[i]? = some x ∧ locB Γ sc x = true then match ckE ir Γ sc e with
          | some q => some ⟨ss_aug h.1 h.2 q.down⟩
          | none => none
        else none
      | _, _, _ => none
    | _ => none
  | .freeze i, _, _, _, _ => none
def ckSs : (irs : Sms) → (Γ : Gm) → (sc : Scope) → (fr : Bool) → (sts : List Stmt) → Ck (SSs Γ sc fr sts irs)
  | .nil, Γ, sc, fr, sts => match sts with
    | [] => some ⟨ss_nil⟩
    | _ => none
  | .cons a r, Γ, sc, fr, sts => match a with
    | .freeze i => match ckSs r Γ sc fr sts with
      | some q => some ⟨ss_freeze q.down⟩
      | none => none
    | a => match sts with
      | x :: xs => match ckS a Γ sc fr x, ckSs r Γ sc fr xs with
        | some p, some q => some ⟨ss_cons p.down q.down⟩
        | _, _ => none
      | [] => none
end
end Rf

namespace Rf
open PySem PySem.Spec L2

/-! ### a def of the text -/
structure Dt where
  d : FDef
  D : He.DefD
  ps : List Str
  N : List Str
def Gm.at (G : Gm) (N : List Str) : Gm := { G with N := N, fl := N }
structure One (G : Gm) (q : Dt) : Prop where
  sco : FnScope q.N q.ps q.D.scope
  body : SSs (G.at q.N) q.D.scope q.d.fr q.D.body q.d.body
  par : q.d.params = q.ps.length
  vars : q.d.vars = q.N.length
  dfl : q.D.dfl = []
  kwd : q.D.kwd = []
def fsB (N P : List Str) (sc : Scope) : Bool := (match sc.kind with | .function => true | _ => false) && (!sc.isCoroutine && (!sc.isGenerator && (decide N.Nodup && (decide (N.take P.length = P) &&
  ((P.all fun x => match sc.names.lookup x with | some .local => true | some .cell => true | _ => false) && (sc.names.all fun y => match y.2 with | .free => false | _ => true))))))
theorem fsB_ok {N P : List Str} {sc : Scope} (h : fsB N P sc = true) : FnScope N P sc := by
  unfold fsB at h
  simp only [Bool.and_eq_true] at h
  obtain ⟨h1, h2, h3, h4, h5, h6, h7⟩ := h
  refine ⟨?_, by simpa using h2, by simpa using h3, of_decide_eq_true h4, of_decide_eq_true h5, fun x hx => ?_, fun y hy z => ?_⟩
  · split at h1
    · assumption
    · cases h1
  · have := List.all_eq_true.mp h6 x hx
    split at this
    · rename_i q; exact .inl q
    · rename_i q; exact .inr q
    · cases this
  · have := List.all_eq_true.mp h7 y hy
    rw [z] at this
    cases this
def ckF (G : Gm) (q : Dt) : Ck (One G q) :=
  if h : fsB q.N q.ps q.D.scope = true ∧ (q.d.params = q.ps.length ∧ q.d.vars = q.N.length) ∧ q.D.dfl.isEmpty = true ∧ q.D.kwd.isEmpty = true then match ckSs q.d.body (G.at q.N) q.D.scope q.d.fr q.D.body with
    | some p => some ⟨⟨fsB_ok h.1, p.down, h.2.1.1, h.2.1.2, List.isEmpty_iff.mp h.2.2.1, List.isEmpty_iff.mp h.2.2.2⟩⟩
    | none => none
  else none
theorem of_ck {p : Prop} {c : Ck p} (h : c.isSome = true) : p := by
  cases c with
  | none => cases h
  | some q => exact q.down

/-! ### a def keeps its promise -/
section
variable {P : Program} {w : World} {K : PySem.W.Frag} {mg : Str → Option Value} {base : Heap}
theorem start_er {ω : Wd} {vs : List V} {ds : List W} {N : List Str} (r : Rps K ω vs ds) : ER K ω (L2.start N vs) (ds.map some ++ List.replicate (N.length - ds.length) none) := by
  unfold L2.start
  refine ⟨by simp [r.length], fun i w h => ?_⟩
  rw [List.getElem?_append] at h
  split at h
  · rename_i hi
    rw [List.length_map] at hi
    rw [List.getElem?_map] at h
    obtain ⟨d, h1, h2⟩ := map_some h
    cases h2
    obtain ⟨v, h3, h4⟩ := r.get h1
    refine ⟨v, ?_, h4⟩
    rw [List.getElem?_append_left (by rw [List.length_map, r.length]; exact hi), List.getElem?_map, h3]; rfl
  · rename_i hi
    rw [List.getElem?_replicate] at h
    split at h <;> cases h
/-- the promise of a def from its body's -/
theorem fng_of {x qual : Str} {params : Arguments} {body : List Stmt} {scope : Scope} {dvs : List V} {kws : List (Str × V)} {f : Addr} {fd : FuncData} {N ps : List Str} {k : Nat} {sp : Sp} (F : FunD K x qual params body scope dvs kws f fd) (S : FnScope N ps scope) (len : ∀ vs H Q E, sp vs H Q E → vs.length = ps.length)
    (hb : ∀ (cdv : Value) (A : Around) (fr : List PySem.Env) (s : Shared) (H : Hp) (vs : List V) (Q : VK), Room k (A.deeper (PyProof.Rows.envOfC qual scope s.heap.objs.size f cdv)) → (A.deeper (PyProof.Rows.envOfC qual scope s.heap.objs.size f cdv)).guards = some [] → sp vs H Q E0 →
      ∃ t, PSs (cxOf CX0 P w K mg base N qual scope f cdv A fr s H E0) body t ∧ t { nx := fun _ H' => Q .non H', rt := Q } (L2.start N vs) H) : FnG P w K mg base (k + 1) f fd ps sp := by
  obtain ⟨oc, od, dV, kV, doc, pm, an, cdv, ct, osl, rfl, lk, hcd, _, _⟩ := F.ex
  refine ⟨len, fun A fr s H as_ us vs Q room hgd e0 bd rv hs => ?_⟩
  have inK : K.In s.heap := e0.mod.kin.keeps fun b o e => And.left (e0.bs b o e)
  have noLim : s.heap.NoLimit := e0.mod.nolimit.keeps fun b o e => And.left (e0.bs b o e)
  have kinds : ∀ z ∈ ps.zip us, scope.names.lookup z.1 = some .local ∨ (scope.names.lookup z.1 = some .cell ∧ ((cellsFrom (s.heap.objs.size + 1) scope.names []).lookup z.1).isSome = true) := by
    intro z hz
    exact (S.par z.1 (List.of_mem_zip (a := z.1) (b := z.2) hz).1).imp id fun c => ⟨c, PySem.W.cellsFrom_some _ _ _ (.inl c)⟩
  refine codeAny_call_function room.depth (inK _ _ lk) rfl S.co S.gen rfl (PySem.W.codeRec_of inK hcd) (bd _ _ _ _ (wpAny_newFunctionEnv_cells S.kind kinds fun env he s1 new => ?_))
  subst he
  obtain ⟨t, ht, ts⟩ := hb cdv A fr s H vs Q (room.deeper _) hgd hs
  refine ⟨noLim.keeps new.toInCall.keep, codeAny_func (wpAny_mono (ht.run [] s1 (L2.start N vs) H _ (inv_start S room.hd e0 (len _ _ _ _ hs) rv new) ts) (fun fl s' en => ?_) fun _ _ en => en)⟩
  match fl, en with
  | .ret u, ⟨v, _, H', J, r', q⟩ => exact ⟨v, H', J.os, J.bare, J.base, J.hok, r', q⟩
  | .next, ⟨_, H', J, q⟩ => exact ⟨V.non, H', J.os, J.bare, J.base, J.hok, rfl, q⟩
  | .brk, ⟨_, _, _, q⟩ => exact q.elim
  | .cont, ⟨_, _, _, q⟩ => exact q.elim
theorem fn_ok {G : Gm} {q : Dt} {M : Sem} {k : Nat} {a : Addr} {fd : FuncData} (o : One G q) (F : FunD K q.D.name q.D.qual q.D.params q.D.body q.D.scope [] [] a fd) (hc : Hc (G.at q.N) ⟨P, w, K, mg, base⟩ M k) :
    FnG P w K mg base (k + 1) a fd q.ps (spW K (fun ds S => callF M q.d ds S) q.d.fr q.ps.length) := by
  refine fng_of F o.sco (fun vs H Q E h => ?_) fun cdv A outer s H vs Q hr hgd h => ?_
  · obtain ⟨ω, S, ds, d, S', _, r, _, hl, _⟩ := h
    rw [r.length, hl]
  · obtain ⟨ω, S, ds, d, S', eH, r, sr, hl, he, hq⟩ := h
    refine ⟨tSs K { M with n0 := S.length } q.d.fr q.d.body, PSs.nox (o.body.ps ⟨P, w, K, mg, base⟩ { M with n0 := S.length } k ⟨hc.nd, hc.free, hc.mods, fun f x ps h1 h2 => by
        obtain ⟨a, fd, f1, f2⟩ := hc.fns f x ps h1 h2
        exact ⟨a, fd, ⟨f1.ok, f1.at_, f1.kp, f1.bind⟩, f2⟩, hc.cons⟩ _ ⟨rfl, rfl, rfl, rfl, rfl, rfl, rfl, rfl, hr, hgd, fun _ _ => rfl⟩ ⟨PassesOwn.never, by show Env.blockKind _ = _; unfold Env.blockKind; show (if q.D.scope.kind.isAnnotationScope = true then _ else q.D.scope.kind) = _; rw [o.sco.kind]; rfl⟩), ?_⟩
    have he : (if ds.length = q.d.params then (match evSs { M with n0 := S.length } q.d.body (ds.map some ++ List.replicate (q.d.vars - ds.length) none) S with
      | some (.ret w S1) => some (w, S1)
      | some (.next _ S1) => if q.d.fr = true then none else some (.non, S1)
      | _ => none) else none) = some (d, S') := he
    rw [if_pos (show ds.length = q.d.params by rw [hl, o.par])] at he
    have er : ER K ω (L2.start q.N vs) (ds.map some ++ List.replicate (q.d.vars - ds.length) none) := by rw [o.vars]; exact start_er r
    cases e1 : evSs { M with n0 := S.length } q.d.body (ds.map some ++ List.replicate (q.d.vars - ds.length) none) S with
    | none => rw [e1] at he; cases he
    | some rr =>
      rw [e1] at he
      refine ⟨ω, _, S, rr, eH, er, sr, e1, ?_⟩
      cases rr with
      | ret x S1 =>
        cases (Option.some.inj he)
        exact fun v ω' ex sr' p => hq v ω' ex sr' p
      | next env1 S1 =>
        have he : (if q.d.fr = true then none else some (W.non, S1)) = some (d, S') := he
        cases hfr : q.d.fr with
        | true => rw [hfr] at he; cases he
        | false =>
          rw [hfr] at he hq
          cases (Option.some.inj he)
          exact fun σ' ω' ex sr' _ => hq .non ω' ex sr' .non
      | brk _ _ => cases he
      | cont _ _ => cases he
end

/-! ### all defs, level upon level -/
abbrev tblOf (L : List Dt) : List FDef := L.map (·.d)
abbrev semL (L : List Dt) (con : Nat → W) (fuel k : Nat) : Sem := semOf (tblOf L) con fuel (run (tblOf L) con fuel k)
structure Facts (G : Gm) (L : List Dt) (con : Nat → W) (P : Program) (w : World) (K : PySem.W.Frag) (mg : Str → Option Value) : Prop where
  one : ∀ q ∈ L, One G q
  fns : G.fns = L.map (·.D.name)
  pars : G.pars = L.map (·.ps)
  free : ∀ x ∈ bltNames, mg x = none
  mods : ∀ b ∈ G.mods, mg (bltNm b) = some (bltVal b)
  cons : ∀ (c : Nat) x, G.cons[c]? = some x → ∃ u v, mg x = some u ∧ RelV v u ∧ ∀ ω, Rp K ω v (con c)
  defs : ∀ q ∈ L, ∃ a fd, FunD K q.D.name q.D.qual q.D.params q.D.body q.D.scope [] [] a fd ∧ mg q.D.name = some (.ref a)
  bind : ∀ (i : Nat) q, L[i]? = some q → ∀ a fd, FunD K q.D.name q.D.qual q.D.params q.D.body q.D.scope [] [] a fd → Binds K fd q.ps [] ∧
    ∀ t ∈ G.kws, t.1 = i → ∀ (s : Shared) (ws vs : List Value), ws.length = t.2.1.length → arrange t.2.2 ws = some vs → vs.length = q.ps.length → BindsTo s fd ⟨[], t.2.1.zip ws⟩ (q.ps.zip vs)
theorem Facts.hc {G : Gm} {L : List Dt} {con : Nat → W} {P : Program} {w : World} {K : PySem.W.Frag} {mg : Str → Option Value} {base : Heap} {fuel k : Nat} (F : Facts G L con P w K mg) {q : Dt} (hq : q ∈ L)
    (ok : ∀ q' a fd, q' ∈ L → ∀ i, L[i]? = some q' → FunD K q'.D.name q'.D.qual q'.D.params q'.D.body q'.D.scope [] [] a fd → FnG P w K mg base k a fd q'.ps (spW K (run (tblOf L) con fuel k i) q'.d.fr q'.ps.length)) : Hc (G.at q.N) ⟨P, w, K, mg, base⟩ (semL L con fuel k) k where
  nd := (F.one q hq).sco.nd
  free := F.free
  mods := F.mods
  fns := fun f x ps h1 h2 => by
    have h1 : G.fns[f]? = some x := h1
    have h2 : G.pars[f]? = some ps := h2
    rw [F.fns, List.getElem?_map] at h1
    obtain ⟨q', e1, e2⟩ := map_some h1
    rw [F.pars, List.getElem?_map, e1] at h2
    cases e2
    cases (Option.some.inj h2)
    have hm := List.mem_of_getElem? e1
    obtain ⟨a, fd, f1, f2⟩ := F.defs q' hm
    obtain ⟨b1, b2⟩ := F.bind f q' e1 a fd f1
    refine ⟨a, fd, ⟨?_, f2, f1.kp, b1⟩, b2⟩
    have hfr : (semL L con fuel k).fr f = q'.d.fr := by
      show ((tblOf L)[f]?).any (·.fr) = _
      rw [List.getElem?_map, e1]; rfl
    rw [hfr]
    exact ok q' a fd hm f e1 f1
  cons := F.cons
theorem Facts.tower {G : Gm} {L : List Dt} {con : Nat → W} {P : Program} {w : World} {K : PySem.W.Frag} {mg : Str → Option Value} {base : Heap} (fuel : Nat) (F : Facts G L con P w K mg) : ∀ (k : Nat) q' a fd, q' ∈ L → ∀ i, L[i]? = some q' → FunD K q'.D.name q'.D.qual q'.D.params q'.D.body q'.D.scope [] [] a fd → FnG P w K mg base k a fd q'.ps (spW K (run (tblOf L) con fuel k i) q'.d.fr q'.ps.length)
  | 0, q', a, fd, hm, i, hi, f => ⟨fun vs H Q E h => by
      obtain ⟨ω, S, ds, d, S', _, r, _, hl, _⟩ := h
      rw [r.length, hl], fun A outer s H args us vs Q hr hg e0 b r h => by
      obtain ⟨ω, S, ds, d, S', _, _, _, _, he, _⟩ := h
      unfold run at he
      cases he⟩
  | k + 1, q', a, fd, hm, i, hi, f => by
    have := fn_ok (P := P) (w := w) (mg := mg) (base := base) (F.one q' hm) f (F.hc (fuel := fuel) hm (Facts.tower fuel F k))
    have e : run (tblOf L) con fuel (k + 1) i = fun ds S => callF (semL L con fuel k) q'.d ds S := by
      funext ds S
      show (match (tblOf L)[i]? with | some d => callF (semOf (tblOf L) con fuel (run (tblOf L) con fuel k)) d ds S | none => none) = _
      rw [List.getElem?_map, hi]; rfl
    rw [e]
    exact this
/-- the law's promise from the evaluator's answer -/
theorem sp_law {K : PySem.W.Frag} {fn : List W → Store → Option (W × Store)} {H : Hp} {a : Addr} {ns : List Int} (h : ∃ S, fn [.ro (ns.map .int)] [] = some (.bl true, S)) (hS : SqL K H a (ns.map V.int)) (hO : Only H) :
    spW K fn false 1 [.ref a] H (fun v _ => v = .bl true) (fun _ _ _ => False) := by
  obtain ⟨S', he⟩ := h
  refine ⟨⟨H, fun _ => False, []⟩, [], [.ro (ns.map .int)], .bl true, S', rfl, .cons (.ro (vs := ns.map V.int) ?_ ?_) .nil, ⟨rfl, fun n ds h => by simp at h, fun n m ds es a h => by simp at h, fun _ h => h.elim, fun a h => by cases h⟩, rfl, he, fun v ω' _ _ p => ?_⟩
  · rcases hS with h | h
    · exact .inl ⟨h, id⟩
    · exact .inr (.inr h)
  · have : ∀ l : List Int, Rps K ⟨H, fun _ => False, []⟩ (l.map V.int) (l.map W.int) := fun l => by
      induction l with
      | nil => exact .nil
      | cons i l ih => exact .cons (.int i) ih
    exact this ns
  · cases (show Rp K ω' v (.bl true) from p)
    rfl
end Rf

namespace Rf
open PySem PySem.Spec L2

/-- a constant of the text -/
inductive Cst where
  | int (i : Int)
  | tup (l : List Int)
def Cst.w : Cst → W
  | .int i => .int i
  | .tup l => .tup (l.map .int)
def conOf (cs : List (Str × Cst)) (c : Nat) : W := match cs[c]? with
  | some q => q.2.w
  | none => .non
def PosOk (q : Dt) : Prop := ∀ (kV doc pm : Value) (an : Option Addr) (cdv ct : Value) (us : List Value), us.length = q.ps.length → bindArgs (PySem.W.fnOf q.D.name q.D.qual q.D.params q.D.body q.D.scope .none kV doc pm an cdv ct) ⟨us, []⟩ = pure (q.ps.zip us)
def KwOk (q : Dt) (kn : List Str) (ks : List Nat) : Prop := ∀ (kV doc pm : Value) (an : Option Addr) (cdv ct : Value) (ws vs : List Value), ws.length = kn.length → arrange ks ws = some vs → bindArgs (PySem.W.fnOf q.D.name q.D.qual q.D.params q.D.body q.D.scope .none kV doc pm an cdv ct) ⟨[], kn.zip ws⟩ = pure (q.ps.zip vs)
theorem kw_bind {K : PySem.W.Frag} {q : Dt} {kn : List Str} {ks : List Nat} {a : Addr} {fd : FuncData} (h : KwOk q kn ks) (F : FunD K q.D.name q.D.qual q.D.params q.D.body q.D.scope [] [] a fd) (s : Shared) (ws vs : List Value) (h1 : ws.length = kn.length) (h2 : arrange ks ws = some vs) : BindsTo s fd ⟨[], kn.zip ws⟩ (q.ps.zip vs) := by
  obtain ⟨oc, od, dV, kV, doc, pm, an, cdv, ct, osl, rfl, lk, hcd, hD, hK⟩ := F.ex
  rcases hD with ⟨_, rfl⟩ | ⟨e, _⟩
  · exact .of_eq (h kV doc pm an cdv ct ws vs h1 h2)
  · exact absurd rfl e
/-! ### what is asked of the top -/
def tupB (K : PySem.W.Frag) (x : Str) (l : List Int) : Bool := match PySem.W.nsIn K mainGlobals x with
  | some (some (.ref a)) => (match K.lookup a with
    | some ⟨.type "tuple", _, .seq its _, _⟩ => decide (its.size ≤ 1000) && (decide (its.size = l.length) && (its.toList.zip l).all fun p => match p.1 with
      | .int i _ => decide (i = p.2)
      | _ => false)
    | _ => false)
  | _ => false
def cstB (K : PySem.W.Frag) (q : Str × Cst) : Bool := match q.2 with
  | .int i => (match PySem.W.nsIn K mainGlobals q.1 with
    | some (some (.int j _)) => decide (j = i)
    | _ => false)
  | .tup l => tupB K q.1 l
def exOf (mods : List Blt) (cs : List (Str × Cst)) (K : PySem.W.Frag) : Bool := (mods.all fun b => He.eqO (PySem.W.nsIn K mainGlobals (bltNm b)) (some (some (bltVal b)))) && cs.all fun q => cstB K q
def faOf (L : List Dt) : List He.Fa := (L.map fun q => He.Fa.glo q.D.name) ++ bltNames.map He.Fa.free
theorem tupB_ok {K : PySem.W.Frag} {h : Heap} {mg : Str → Option Value} {x : Str} {l : List Int} (X : K.In h) (G : h.Ns mainGlobals mg) (c : tupB K x l = true) : ∃ u v, mg x = some u ∧ RelV v u ∧ ∀ ω, Rp K ω v (.tup (l.map .int)) := by
  unfold tupB at c
  split at c
  · rename_i a e
    split at c
    · rename_i dd its n sl e2
      simp only [Bool.and_eq_true] at c
      obtain ⟨c1, c2, c3⟩ := c
      have c1 := of_decide_eq_true c1
      have c2 := of_decide_eq_true c2
      have key : ∀ (us : List Value) (l : List Int), us.length = l.length → ((us.zip l).all fun p => match p.1 with | .int i _ => decide (i = p.2) | _ => false) = true → Vals (l.map V.int) us := fun us => by
        induction us with
        | nil => intro l hl _; cases l with
          | nil => exact .nil
          | cons _ _ => cases hl
        | cons u us ih => intro l hl h; cases l with
          | nil => cases hl
          | cons i l =>
            rw [List.zip_cons_cons, List.all_cons, Bool.and_eq_true] at h
            obtain ⟨h1, h2⟩ := h
            refine .cons ?_ (ih l (by simpa using hl) h2)
            cases u with
            | int j t => exact ⟨t, by rw [of_decide_eq_true h1]⟩
            | _ => exact Bool.noConfusion h1
      refine ⟨.ref a, .ref a, PySem.W.mg_of X G e, rfl, fun ω => .tup (vs := l.map V.int) (.inr (.inr ⟨_, its, n, e2, rfl, rfl, by rw [sizeLine_eq]; omega, key its.toList l (by simpa using c2) c3⟩)) ?_⟩
      have : ∀ l : List Int, Rps K ω (l.map V.int) (l.map W.int) := fun l => by
        induction l with
        | nil => exact .nil
        | cons i l ih => exact .cons (.int i) ih
      exact this l
    · cases c
  · cases c
theorem cstB_ok {K : PySem.W.Frag} {h : Heap} {mg : Str → Option Value} {q : Str × Cst} (X : K.In h) (G : h.Ns mainGlobals mg) (c : cstB K q = true) : ∃ u v, mg q.1 = some u ∧ RelV v u ∧ ∀ ω, Rp K ω v q.2.w := by
  obtain ⟨x, k⟩ := q
  cases k with
  | int i =>
    unfold cstB at c
    dsimp only at c
    split at c
    · rename_i j t e
      have := of_decide_eq_true c
      subst this
      exact ⟨.int j t, .int j, PySem.W.mg_of X G e, ⟨t, rfl⟩, fun ω => .int j⟩
    · cases c
  | tup l => exact tupB_ok X G c
theorem facts_of {G : Gm} {L : List Dt} {cs : List (Str × Cst)} {P : Program} {w : World} {K : PySem.W.Frag} {h : Heap} {mg : Str → Option Value} (X : K.In h) (Gn : h.Ns mainGlobals mg) (c : He.SaysX (faOf L) (L.map (·.D)) [] [] (exOf G.mods cs) w h K)
    (one : ∀ q ∈ L, One G q) (fns : G.fns = L.map (·.D.name)) (pars : G.pars = L.map (·.ps)) (hcs : G.cons = cs.map (·.1)) (ats : ∀ q ∈ L, q.D.at_ = (q.D.name, none)) (pos : ∀ q ∈ L, PosOk q) (kw : ∀ t ∈ G.kws, ∃ q, L[t.1]? = some q ∧ KwOk q t.2.1 t.2.2) : Facts G L (conOf cs) P w K mg where
  one := one
  fns := fns
  pars := pars
  free := fun x hx => He.free_ok X Gn (c.t.d.facts (List.mem_append_right _ (List.mem_map_of_mem hx)))
  mods := fun b hb => by
    have := (Bool.and_eq_true_iff.mp c.more).1
    exact PySem.W.mg_of X Gn (He.eqO_ok (List.all_eq_true.mp this b hb))
  cons := fun i x hx => by
    rw [hcs, List.getElem?_map] at hx
    obtain ⟨q, e1, e2⟩ := map_some hx
    subst e2
    have := List.all_eq_true.mp (Bool.and_eq_true_iff.mp c.more).2 q (List.mem_of_getElem? e1)
    have e : conOf cs i = q.2.w := by unfold conOf; rw [e1]
    rw [e]
    exact cstB_ok X Gn this
  defs := fun q hq => by
    obtain ⟨fd, F⟩ := c.t.d.defs (List.mem_map_of_mem (f := (·.D)) hq)
    have hd : q.D.dvs K = [] := by unfold He.DefD.dvs; rw [(one q hq).dfl]; rfl
    have hk : q.D.kws K = [] := by unfold He.DefD.kws; rw [(one q hq).kwd]; rfl
    rw [hd, hk] at F
    refine ⟨_, fd, F, ?_⟩
    have := He.glo_ok X Gn (c.t.d.facts (f := .glo q.D.name) (List.mem_append_left _ (List.mem_map_of_mem (f := fun q => He.Fa.glo q.D.name) hq)))
    rw [this, ats q hq]; rfl
  bind := fun i q hi a fd F => ⟨F.bindsN (pos q (List.mem_of_getElem? hi)), fun t ht e s ws vs h1 h2 _ => by
    obtain ⟨q', e1, k⟩ := kw t ht
    rw [e, hi] at e1
    cases (Option.some.inj e1)
    exact kw_bind k F s ws vs h1 h2⟩
/-- the law's def from its place -/
theorem law_facts {G : Gm} {L : List Dt} {cs : List (Str × Cst)} {P : Program} {w : World} {K : PySem.W.Frag} {h : Heap} {mg : Str → Option Value} {fa : Addr} (X : K.In h) (F : Facts G L (conOf cs) P w K mg) (fuel k i : Nat) {q : Dt} (hi : L[i]? = some q) (hp : q.ps = [("script" : Str)]) (hfr : q.d.fr = false) (pos : PosOk q) (hfa : mg q.D.name = some (.ref fa)) :
    ∃ fd : FuncData, (∀ (s : Shared) (v : Value), BindsTo s fd ⟨[v], []⟩ [("script", v)]) ∧ ∀ base : Heap, FnG P w K mg base k fa fd ["script"] (spW K (run (tblOf L) (conOf cs) fuel k i) false 1) := by
  have hm := List.mem_of_getElem? hi
  obtain ⟨a, fd, f1, f2⟩ := F.defs q hm
  rw [hfa] at f2
  cases f2
  have b := FunD.bindsA (ps := q.ps) f1 pos
  rw [hp] at b
  refine ⟨fd, fun s v => b s [v] rfl, fun base => ?_⟩
  have := F.tower (base := base) fuel k q _ fd hm i hi f1
  rw [hfr, hp] at this
  exact this
end Rf

namespace Rf
open PySem PySem.Spec L2
open PyProof.Rows (IntsAre AllBare)

/-! ### the law's end where no repr is under way -/
def scriptO (vs : List Value) : Obj := { cls := .type "list", data := .seq vs.toArray }
/-- an abstract heap at the start: the script alone, if it is no object of the written part -/
structure Hp0 (P : Program) (w : World) (K : PySem.W.Frag) (h : Heap) (a : Addr) (ns : List Int) (H : Hp) : Prop where
  only : Only H
  sq : SqL K H a (ns.map V.int)
  ok : HOk P w H h
  at_ : ∀ b, H b ≠ none → b = a
  out : H a ≠ none → K.lookup a = none
theorem hp0 {P : Program} {w : World} {K : PySem.W.Frag} {h : Heap} {a : Addr} {vs : List Value} {ns : List Int} (kin : K.In h) (obj : h.get? a = some (scriptO vs)) (hi : IntsAre vs ns) (hl : ns.length ≤ sizeLine) : ∃ H, Hp0 P w K h a ns H := by
  have rel : Vals (ns.map V.int) vs := vals_ints hi
  cases q : K.lookup a with
  | some o =>
    have same : o = scriptO vs := Option.some.inj ((kin a o q).symm.trans obj)
    subst same
    have le : vs.toArray.size ≤ sizeLine := by rw [List.size_toArray, hi.length]; exact hl
    exact ⟨noH, fun b => .inl rfl, .inr ⟨scriptO vs, vs.toArray, _, q, rfl, rfl, rfl, le, rel⟩, (fun b u z => nomatch (show (none : Option HO) = some u from z)), (fun b z => absurd rfl z), fun z => absurd rfl z⟩
  | none =>
    refine ⟨fun b => if b = a then some (.frz (scriptO vs) (.lst (ns.map V.int))) else none, ⟨fun b => ?_, .inl (.inr ⟨scriptO vs, if_pos rfl⟩), fun b u z => ?_, fun b z => ?_, fun _ => q⟩⟩
    · by_cases e : b = a
      · exact .inr ⟨_, _, if_pos e⟩
      · exact .inl (if_neg e)
    · by_cases e : b = a
      · subst e
        obtain rfl := Option.some.inj ((if_pos rfl).symm.trans z)
        exact ⟨obj, by rw [List.length_map]; exact hl, vs, _, rel, obj⟩
      · exact nomatch (if_neg e).symm.trans z
    · by_cases e : b = a
      · exact e
      · exact absurd (if_neg e) z
theorem law_endG {P : Program} {w : World} {K : PySem.W.Frag} {mg mb : Str → Option Value} {k : Nat} {fa a : Addr} {fd : FuncData} {x : Str} {sp : Sp} {s : Shared} {vs : List Value} {ns : List Int}
    (kin : K.In s.heap) (gl : s.heap.Ns mainGlobals mg) (bl : s.heap.Ns builtinsNs mb) (bb : ∀ x : Str, x ≠ "__name__" → mb x = bootBuiltins x) (lim : s.heap.NoLimit) (gens : s.gens = #[]) (obj : s.heap.get? a = some (scriptO vs)) (hi : IntsAre vs ns) (hl : ns.length ≤ sizeLine) (hr : Room k callerA)
    (F : ∀ base : Heap, FnG P w K mg base k fa fd [x] sp) (bd : ∀ (s : Shared) (u : Value), BindsTo s fd ⟨[u], []⟩ [(x, u)]) (hsp : ∀ H : Hp, Only H → SqL K H a (ns.map V.int) → sp [.ref a] H (fun v _ => v = .bl true) E0) :
    codeAny (model P w) callerA (.call (.ref fa) ⟨[.ref a], []⟩) (fun r t => r = .ok (.ret (.bool true)) ∧ OldK s.heap t.heap ∧ t.os = s.os ∧ AllBare t.gens) s := by
  obtain ⟨H, h0⟩ := hp0 (P := P) (w := w) kin obj hi hl
  have stay : ∀ {b : Addr} {o : Obj}, s.heap.get? b = some o → b ≠ a → (hidT s.heap H).get? b = some o := fun {b o} e ne => hidT_get e (by
    cases q : H b with
    | none => rfl
    | some u => exact absurd (h0.at_ b (by rw [q]; exact fun z => nomatch z)) ne)
  have ns_ : ∀ {b : Addr} {m : Str → Option Value}, s.heap.Ns b m → (hidT s.heap H).Ns b m := fun {b m} n => by
    obtain ⟨o, es, ep, e, d, r⟩ := n
    refine ⟨o, es, ep, stay e fun z => ?_, d, r⟩
    subst z
    rw [obj] at e
    cases e
    exact nomatch (show Data.seq vs.toArray _ = Data.dict es ep from d)
  have kin2 : K.In (hidT s.heap H) := fun b o e => hidT_get (kin b o e) (by
    cases q : H b with
    | none => rfl
    | some u =>
      have ea : b = a := h0.at_ b (by rw [q]; exact fun z => nomatch z)
      subst ea
      rw [h0.out (by rw [q]; exact fun z => nomatch z)] at e
      cases e)
  have md : Mod K mg (hidT s.heap H) := ⟨kin2, ns_ gl, ⟨mb, ns_ bl, bb⟩, by obtain ⟨m, l1, l2⟩ := lim; exact ⟨m, ns_ l1, l2⟩⟩
  have env0 : Env0 P w K mg (hidT s.heap H) callerA [] s H := ⟨rfl, md, fun b o e => of_hidT e, Nat.le_of_eq (hidT_size _ _), trivial, fun b hb => (nomatch hb), h0.ok, .of_eq gens⟩
  refine codeAny_mono ((F _).run callerA [] s H ⟨[.ref a], []⟩ [.ref a] [.ref a] _ hr rfl env0 (bd s (.ref a)) (.cons rfl .nil) (hsp H h0.only h0.sq)) fun res t hq => ?_
  match res, hq with
  | .error _, hq => exact hq.elim
  | .ok .next, hq => exact hq.elim
  | .ok .brk, hq => exact hq.elim
  | .ok .cont, hq => exact hq.elim
  | .ok (.ret u), ⟨v, H', os, bare, un, hok', r', q⟩ =>
    have q : v = .bl true := q
    subst q
    obtain rfl : u = Value.bool true := r'
    refine ⟨rfl, OldK.of_keep fun b o e => ?_, os, bare⟩
    cases hb : H b with
    | none => exact un.keep b o e hb (fun z => nomatch z) (fun z => nomatch z)
    | some u =>
      rcases h0.only b with z | ⟨ob, xs, z⟩
      · rw [hb] at z; cases z
      · obtain ⟨e1, _⟩ := h0.ok b _ z
        obtain ⟨e2, _⟩ := hok' b _ (un.frzs b ob _ z)
        exact e2.trans (e1.symm.trans e)
theorem walkG {l : PySem.W.OpenLaw} {n k : Nat} {q : Program} {loose : List Str} {XP : (Str → Option Value) → Heap → Prop} {YP : World → Heap → Prop} {d : DefRec} {x : Str} (hn : l.most = some n) (hn2 : n ≤ sizeLine) (hdf : d.params.defaults = []) (hr : Room k callerA)
    (F : ∀ (w : World) (mg : Str → Option Value) (fa : Addr) (h : Heap), YP w h → h.Ns mainGlobals mg → mg d.name = some (.ref fa) →
      ∃ (K : PySem.W.Frag) (fd : FuncData) (sp : Sp), K.In h ∧ (∀ (s : Shared) (u : Value), BindsTo s fd ⟨[u], []⟩ [(x, u)]) ∧ (∀ (H : Hp) (a : Addr) (ns : List Int), ns.length ≤ n → Only H → SqL K H a (ns.map V.int) → sp [.ref a] H (fun v _ => v = .bl true) E0) ∧ ∀ base : Heap, FnG l.prog w K mg base k fa fd [x] sp) :
    PySem.W.WalkO q loose XP YP l.row.toRowW d [] (fun f vs => PySem.call f vs) :=
  Att.attach_call hn hdf fun w s₀ s₁ mg mb fa o pm cd doc a vs ns G Y ho hd hcd hmg hobj hints hlen hg => by
    obtain ⟨K, fd, sp, kin, hb, hsp, hF⟩ := F w mg fa _ Y G.T.g hmg
    exact law_endG kin G.T.g G.T.b G.T.builtins G.T.nolimit hg hobj hints (Nat.le_trans hlen hn2) hr hF hb fun H hO hS => hsp H a ns hlen hO hS
end Rf

namespace Rf

/-! ### what an evaluation comes to -/
def Wp {α : Type} (o : Option (α × Store)) (Q : α → Store → Prop) : Prop := match o with
  | some (x, S) => Q x S
  | none => False
def Wo {α : Type} (o : Option α) (Q : α → Prop) : Prop := match o with
  | some x => Q x
  | none => False
structure Dn where
  nx : Env → Store → Prop
  rt : W → Store → Prop
  bk : Env → Store → Prop := fun _ _ => False
  ct : Env → Store → Prop := fun _ _ => False
def Wr (o : Option Rs) (D : Dn) : Prop := match o with
  | some (.next env S) => D.nx env S
  | some (.ret w S) => D.rt w S
  | some (.brk env S) => D.bk env S
  | some (.cont env S) => D.ct env S
  | none => False
theorem Wp.mono {α : Type} {o : Option (α × Store)} {Q Q' : α → Store → Prop} (h : Wp o Q) (i : ∀ x S, Q x S → Q' x S) : Wp o Q' := by
  cases o with
  | none => exact h
  | some p => exact i _ _ h
theorem Wp.ex {α : Type} {o : Option (α × Store)} {Q : α → Store → Prop} (h : Wp o Q) : ∃ x S, o = some (x, S) ∧ Q x S := by
  cases o with
  | none => exact h.elim
  | some p => exact ⟨p.1, p.2, rfl, h⟩
theorem Wp.of {α : Type} {o : Option (α × Store)} {Q : α → Store → Prop} {x : α} {S : Store} (e : o = some (x, S)) (h : Q x S) : Wp o Q := by rw [e]; exact h
theorem Wr.mono {o : Option Rs} {D D' : Dn} (h : Wr o D) (n : ∀ e S, D.nx e S → D'.nx e S) (r : ∀ w S, D.rt w S → D'.rt w S) (b : ∀ e S, D.bk e S → D'.bk e S) (c : ∀ e S, D.ct e S → D'.ct e S) : Wr o D' := by
  cases o with
  | none => exact h
  | some q => cases q with
    | next env S => exact n _ _ h
    | ret w S => exact r _ _ h
    | brk env S => exact b _ _ h
    | cont env S => exact c _ _ h
@[simp] theorem wo_some {α : Type} {x : α} {Q : α → Prop} : Wo (some x) Q = Q x := rfl
@[simp] theorem wo_none {α : Type} {Q : α → Prop} : Wo (none : Option α) Q = False := rfl
theorem wo_if {α : Type} {c : Prop} [Decidable c] {x : α} {Q : α → Prop} : Wo (if c then some x else none) Q = (c ∧ Q x) := by
  by_cases h : c
  · rw [if_pos h]; exact propext ⟨fun q => ⟨h, q⟩, fun q => q.2⟩
  · rw [if_neg h]; exact propext ⟨fun q => q.elim, fun q => h q.1⟩
theorem wo_map {α β : Type} {o : Option α} {f : α → β} {Q : β → Prop} : Wo (o.map f) Q = Wo o fun x => Q (f x) := by cases o <;> rfl
/-- a call -/
def Wc (M : Sem) (f : Nat) (ds : List W) (S : Store) (Q : W → Store → Prop) : Prop := Wp (M.fn f ds S) Q
section
variable {M : Sem} {env : Env} {S : Store} {Q : W → Store → Prop}
theorem wp_var {i : Nat} : Wp (evE M (.var i) env S) Q = Wo (env[i]?).join fun w => Q w S := by
  rw [evE]; cases (env[i]?).join <;> rfl
theorem wp_cst {w : W} : Wp (evE M (.cst w) env S) Q = Q w S := by rw [evE]; rfl
theorem wp_con {c : Nat} : Wp (evE M (.con c) env S) Q = Q (M.con c) S := by rw [evE]; rfl
theorem wp_edict : Wp (evE M .edict env S) Q = Q .edict S := by rw [evE]; rfl
theorem wps_nil {Q : List W → Store → Prop} : Wp (evEs M .nil env S) Q = Q [] S := by rw [evEs]; rfl
theorem wps_cons {a : Xp} {r : Xps} {Q : List W → Store → Prop} : Wp (evEs M (.cons a r) env S) Q = Wp (evE M a env S) fun x S1 => Wp (evEs M r env S1) fun xs S2 => Q (x :: xs) S2 := by
  rw [evEs]
  cases evE M a env S with
  | none => rfl
  | some p => obtain ⟨x, S1⟩ := p; show Wp (match evEs M r env S1 with | some (xs, S2) => some (x :: xs, S2) | none => none) Q = Wp (evEs M r env S1) _; cases evEs M r env S1 <;> rfl
theorem wp_tup {es : Xps} : Wp (evE M (.tup es) env S) Q = Wp (evEs M es env S) fun ds S1 => ds.length ≤ PySem.sizeLine ∧ Q (.tup ds) S1 := by
  rw [evE]
  cases evEs M es env S with
  | none => rfl
  | some p =>
    obtain ⟨ds, S1⟩ := p
    show Wp (if ds.length ≤ PySem.sizeLine then some (W.tup ds, S1) else none) Q = (_ ∧ _)
    by_cases h : ds.length ≤ PySem.sizeLine
    · rw [if_pos h]; exact propext ⟨fun q => ⟨h, q⟩, fun q => q.2⟩
    · rw [if_neg h]; exact propext ⟨fun q => q.elim, fun q => h q.1⟩
theorem wp_lst {es : Xps} : Wp (evE M (.lst es) env S) Q = Wp (evEs M es env S) fun ds S1 => ds.length ≤ PySem.sizeLine ∧ Q (.lst ds) S1 := by
  rw [evE]
  cases evEs M es env S with
  | none => rfl
  | some p =>
    obtain ⟨ds, S1⟩ := p
    show Wp (if ds.length ≤ PySem.sizeLine then some (W.lst ds, S1) else none) Q = (_ ∧ _)
    by_cases h : ds.length ≤ PySem.sizeLine
    · rw [if_pos h]; exact propext ⟨fun q => ⟨h, q⟩, fun q => q.2⟩
    · rw [if_neg h]; exact propext ⟨fun q => q.elim, fun q => h q.1⟩
theorem wp_of_map {o : Option W} : Wp (o.map fun z => (z, S)) Q = Wo o fun z => Q z S := by cases o <;> rfl
theorem wp_bin {op : Bop} {a b : Xp} : Wp (evE M (.bin op a b) env S) Q = Wp (evE M a env S) fun x S1 => Wp (evE M b env S1) fun y S2 => Wo (binW S2 op x y) fun z => Q z S2 := by
  rw [evE]
  cases evE M a env S with
  | none => rfl
  | some p =>
    obtain ⟨x, S1⟩ := p
    show Wp (match evE M b env S1 with | some (y, S2) => (binW S2 op x y).map fun z => (z, S2) | none => none) Q = Wp (evE M b env S1) _
    cases evE M b env S1 with
    | none => rfl
    | some p => obtain ⟨y, S2⟩ := p; exact wp_of_map
theorem wp_cmp {op : Cop} {a b : Xp} : Wp (evE M (.cmp op a b) env S) Q = Wp (evE M a env S) fun x S1 => Wp (evE M b env S1) fun y S2 => Wo (cmpW S2 op x y) fun z => Q z S2 := by
  rw [evE]
  cases evE M a env S with
  | none => rfl
  | some p =>
    obtain ⟨x, S1⟩ := p
    show Wp (match evE M b env S1 with | some (y, S2) => (cmpW S2 op x y).map fun z => (z, S2) | none => none) Q = Wp (evE M b env S1) _
    cases evE M b env S1 with
    | none => rfl
    | some p => obtain ⟨y, S2⟩ := p; exact wp_of_map
theorem wp_sub {a b : Xp} : Wp (evE M (.sub a b) env S) Q = Wp (evE M a env S) fun x S1 => Wp (evE M b env S1) fun y S2 => Wo (subW S2 x y) fun z => Q z S2 := by
  rw [evE]
  cases evE M a env S with
  | none => rfl
  | some p =>
    obtain ⟨x, S1⟩ := p
    show Wp (match evE M b env S1 with | some (y, S2) => (subW S2 x y).map fun z => (z, S2) | none => none) Q = Wp (evE M b env S1) _
    cases evE M b env S1 with
    | none => rfl
    | some p => obtain ⟨y, S2⟩ := p; exact wp_of_map
theorem wp_neg {a : Xp} : Wp (evE M (.neg a) env S) Q = Wp (evE M a env S) fun x S1 => (match x with | .int i => Q (.int (-i)) S1 | _ => False) := by
  rw [evE]
  cases evE M a env S with
  | none => rfl
  | some p => obtain ⟨x, S1⟩ := p; cases x <;> rfl
/-- a test -/
def Wt (M : Sem) (e : Xp) (env : Env) (S : Store) (Q : Bool → Store → Prop) : Prop := Wp (evE M e env S) fun x S1 => Wo (truW S1 x) fun b => Q b S1
theorem wp_evT {e : Xp} {Q : Bool → Store → Prop} : Wp (evT M e env S) Q = Wt M e env S Q := by
  unfold evT Wt
  cases evE M e env S with
  | none => rfl
  | some p => obtain ⟨x, S1⟩ := p; show Wp ((truW S1 x).map fun k => (k, S1)) Q = Wo (truW S1 x) _; cases truW S1 x <;> rfl
theorem wp_nott {a : Xp} : Wp (evE M (.nott a) env S) Q = Wt M a env S fun b S1 => Q (.bl (!b)) S1 := by
  rw [evE]; unfold Wt
  cases evE M a env S with
  | none => rfl
  | some p => obtain ⟨x, S1⟩ := p; show Wp ((truW S1 x).map fun k => (W.bl (!k), S1)) Q = Wo (truW S1 x) _; cases truW S1 x <;> rfl
theorem wp_andd {a b : Xp} : Wp (evE M (.andd a b) env S) Q = Wp (evE M a env S) fun x S1 => Wo (truW S1 x) fun k => if k = true then Wp (evE M b env S1) Q else Q x S1 := by
  rw [evE]
  cases evE M a env S with
  | none => rfl
  | some p =>
    obtain ⟨x, S1⟩ := p
    show Wp (match truW S1 x with | some true => evE M b env S1 | some false => some (x, S1) | none => none) Q = Wo (truW S1 x) _
    cases truW S1 x with
    | none => rfl
    | some k => cases k <;> simp [Wp]
theorem wp_orr {a b : Xp} : Wp (evE M (.orr a b) env S) Q = Wp (evE M a env S) fun x S1 => Wo (truW S1 x) fun k => if k = true then Q x S1 else Wp (evE M b env S1) Q := by
  rw [evE]
  cases evE M a env S with
  | none => rfl
  | some p =>
    obtain ⟨x, S1⟩ := p
    show Wp (match truW S1 x with | some false => evE M b env S1 | some true => some (x, S1) | none => none) Q = Wo (truW S1 x) _
    cases truW S1 x with
    | none => rfl
    | some k => cases k <;> simp [Wp]
theorem wp_ite {t a b : Xp} : Wp (evE M (.ite t a b) env S) Q = Wt M t env S fun k S1 => if k = true then Wp (evE M a env S1) Q else Wp (evE M b env S1) Q := by
  rw [evE]; unfold Wt
  cases evE M t env S with
  | none => rfl
  | some p =>
    obtain ⟨x, S1⟩ := p
    show Wp (match truW S1 x with | some true => evE M a env S1 | some false => evE M b env S1 | none => none) Q = Wo (truW S1 x) _
    cases truW S1 x with
    | none => rfl
    | some k => cases k <;> simp
theorem wp_blt {b : Blt} {args : Xps} : Wp (evE M (.blt b args) env S) Q = Wp (evEs M args env S) fun ds S1 => Wo (bltW S1 b ds) fun z => Q z S1 := by
  rw [evE]
  cases evEs M args env S with
  | none => rfl
  | some p => obtain ⟨ds, S1⟩ := p; exact wp_of_map
theorem wp_isi {a : Xp} {ts : List String} : Wp (evE M (.isi a ts) env S) Q = Wp (evE M a env S) fun x S1 => Wo (isiW x ts) fun k => Q (.bl k) S1 := by
  rw [evE]
  cases evE M a env S with
  | none => rfl
  | some p => obtain ⟨x, S1⟩ := p; show Wp ((isiW x ts).map fun k => (W.bl k, S1)) Q = Wo (isiW x ts) _; cases isiW x ts <;> rfl
/-- a call with no cell -/
def Wq (M : Sem) (f : Nat) (ds : List W) (Q : W → Prop) : Prop := Wp (M.fn f ds []) fun w _ => w.free = true ∧ Q w
/-- a call of a def that is handed no cell to change -/
def Wk (M : Sem) (f : Nat) (ds : List W) (S : Store) (Q : W → Store → Prop) : Prop := Wp (pureCall M f ds S) Q
theorem wk_free {f : Nat} {ds : List W} (h : W.frees ds = true) : Wk M f ds S Q = Wq M f ds fun w => Q w S := by
  unfold Wk pureCall Wq
  rw [if_pos h]
  cases M.fn f ds [] with
  | none => rfl
  | some p =>
    obtain ⟨d, S1⟩ := p
    show Wp (if d.free = true then some (d, S) else none) Q = (_ ∧ _)
    by_cases h2 : d.free = true
    · rw [if_pos h2]; exact propext ⟨fun q => ⟨h2, q⟩, fun q => q.2⟩
    · rw [if_neg h2]; exact propext ⟨fun q => q.elim, fun q => h2 q.1⟩
/-- the same, cells lent -/
theorem wk_lent {f : Nat} {ds es : List W} (h : W.frees ds = false) (hd : W.derefs S ds = some es) (hf : M.fr f = false) (hq : Wp (M.fn f es []) fun w _ => w.scalar = true ∧ Q w S) : Wk M f ds S Q := by
  unfold Wk pureCall
  rw [if_neg (by rw [h]; exact Bool.false_ne_true)]
  unfold lentCall
  rw [hd]
  dsimp only
  cases e : M.fn f es [] with
  | none => rw [e] at hq; exact hq
  | some p =>
    obtain ⟨d, S1⟩ := p
    rw [e] at hq
    obtain ⟨h1, h2⟩ := (show d.scalar = true ∧ Q d S from hq)
    dsimp only
    rw [if_pos ⟨h1, hf⟩]
    exact h2
theorem wp_repr {a : Xp} : Wp (evE M (.repr a) env S) Q = Wp (evE M a env S) fun x S1 => Wo (reprW x) fun z => Q z S1 := by
  rw [evE]
  cases evE M a env S with
  | none => rfl
  | some p => obtain ⟨x, S1⟩ := p; exact wp_of_map
theorem wp_call {f : Nat} {args : Xps} : Wp (evE M (.call f args) env S) Q = Wp (evEs M args env S) fun ds S1 => Wk M f ds S1 Q := by
  rw [evE]
  cases evEs M args env S with
  | none => rfl
  | some p => obtain ⟨ds, S1⟩ := p; rfl
theorem wp_callS {f : Nat} {args : Xps} : Wp (evE M (.callS f args) env S) Q = Wp (evEs M args env S) fun ds S1 => Wc M f ds S1 Q := by
  rw [evE]
  cases evEs M args env S with
  | none => rfl
  | some p => obtain ⟨ds, S1⟩ := p; rfl
theorem wp_callK {f : Nat} {args kargs : Xps} {ks : List Nat} : Wp (evE M (.callK f args ks kargs) env S) Q = Wp (evEs M args env S) fun ds S1 => Wp (evEs M kargs env S1) fun es S2 => Wo (arrange ks (ds ++ es)) fun qs => Wk M f qs S2 Q := by
  rw [evE]
  cases evEs M args env S with
  | none => rfl
  | some p =>
    obtain ⟨ds, S1⟩ := p
    show Wp (match evEs M kargs env S1 with | some (es, S2) => (match arrange ks (ds ++ es) with | some qs => pureCall M f qs S2 | none => none) | none => none) Q = Wp (evEs M kargs env S1) _
    cases evEs M kargs env S1 with
    | none => rfl
    | some p =>
      obtain ⟨es, S2⟩ := p
      show Wp (match arrange ks (ds ++ es) with | some qs => pureCall M f qs S2 | none => none) Q = Wo (arrange ks (ds ++ es)) _
      cases arrange ks (ds ++ es) with
      | none => rfl
      | some qs => rfl
theorem wp_meth {m : Mth} {o : Xp} {args : Xps} : Wp (evE M (.meth m o args) env S) Q = Wp (evE M o env S) fun x S1 => (listOf S1 x).isSome = true ∧ Wp (evEs M args env S1) fun ds S2 => Wp (methW S2 m x ds) Q := by
  rw [evE]
  cases evE M o env S with
  | none => rfl
  | some p =>
    obtain ⟨x, S1⟩ := p
    show Wp (if (listOf S1 x).isSome = true then _ else none) Q = (_ ∧ _)
    by_cases h : (listOf S1 x).isSome = true
    · rw [if_pos h]
      refine propext ⟨fun q => ⟨h, ?_⟩, fun q => ?_⟩
      · cases e : evEs M args env S1 with
        | none => rw [e] at q; exact q
        | some p => rw [e] at q; exact q
      · have q := q.2
        cases e : evEs M args env S1 with
        | none => rw [e] at q; exact q
        | some p => rw [e] at q; exact q
    · rw [if_neg h]; exact propext ⟨fun q => q.elim, fun q => h q.1⟩
theorem wp_thaw {a : Xp} : Wp (evE M (.thaw a) env S) Q = (fresh M a = true ∧ Wp (evE M a env S) fun x S1 => (match x with | .lst ds => Q (.loc S1.length) (S1 ++ [some ds]) | _ => False)) := by
  rw [evE]
  by_cases h : fresh M a = true
  · rw [if_pos h]
    cases evE M a env S with
    | none => exact propext ⟨fun q => q.elim, fun q => q.2.elim⟩
    | some p => obtain ⟨x, S1⟩ := p; cases x <;> exact propext ⟨fun q => ⟨h, q⟩, fun q => q.2⟩
  · rw [if_neg h]; exact propext ⟨fun q => q.elim, fun q => h q.1⟩
theorem wp_slc {a lo hi : Xp} {hl hh : Bool} : Wp (evE M (.slc a hl lo hh hi) env S) Q = Wp (evE M a env S) fun x S1 => Wp (if hl = true then intPart (evE M lo env S1) else some (none, S1)) fun l S2 => Wp (if hh = true then intPart (evE M hi env S2) else some (none, S2)) fun h S3 => Wo (slcW S3 x l h) fun z => Q z S3 := by
  rw [evE]
  cases evE M a env S with
  | none => rfl
  | some p =>
    obtain ⟨x, S1⟩ := p
    dsimp only [Wp]
    cases (if hl = true then intPart (evE M lo env S1) else some (none, S1)) with
    | none => rfl
    | some p =>
      obtain ⟨l, S2⟩ := p
      dsimp only [Wp]
      cases (if hh = true then intPart (evE M hi env S2) else some (none, S2)) with
      | none => rfl
      | some p => obtain ⟨h, S3⟩ := p; exact wp_of_map
theorem wp_intPart {o : Option (W × Store)} {Q : Option Int → Store → Prop} : Wp (intPart o) Q = Wp o fun x S1 => (match x with | .int i => Q (some i) S1 | _ => False) := by
  cases o with
  | none => rfl
  | some p => obtain ⟨x, S1⟩ := p; cases x <;> rfl
end
def dn_Ev1 : List Lean.Name := [`wp_cst, `wp_edict, `wps_nil, `wps_cons, `wp_tup, `wp_lst, `wp_bin, `wp_cmp, `wp_sub, `wp_neg, `wp_nott, `wp_blt, `wp_isi, `wp_repr, `wp_meth, `wp_thaw]
def up_Ev1 : List Lean.Name := [`wo_some]
end Rf

namespace Rf
section
variable {M : Sem} {env : Env} {S : Store} {D : Dn}
/-! ### statements -/
theorem wrs_nil : Wr (evSs M .nil env S) D = D.nx env S := by rw [evSs]; rfl
theorem wrs_cons {s : Sm} {r : Sms} : Wr (evSs M (.cons s r) env S) D = Wr (evS M s env S) { D with nx := fun e S1 => Wr (evSs M r e S1) D } := by
  rw [evSs]
  cases evS M s env S with
  | none => rfl
  | some q => cases q <;> rfl
theorem wr_asg {t : Xt} {e : Xp} : Wr (evS M (.asg t e) env S) D = Wp (evE M e env S) fun w S1 => Wp (asgT M t w env S1) D.nx := by
  rw [evS]
  cases evE M e env S with
  | none => rfl
  | some p => obtain ⟨w, S1⟩ := p; show Wr (match asgT M t w env S1 with | some (env1, S2) => some (Rs.next env1 S2) | none => none) D = Wp (asgT M t w env S1) D.nx; cases asgT M t w env S1 <;> rfl
theorem wr_expr {e : Xp} : Wr (evS M (.expr e) env S) D = Wp (evE M e env S) fun _ S1 => D.nx env S1 := by
  rw [evS]; cases evE M e env S <;> rfl
theorem wr_ret {e : Xp} : Wr (evS M (.ret e) env S) D = Wp (evE M e env S) D.rt := by
  rw [evS]; cases evE M e env S <;> rfl
theorem wr_retN : Wr (evS M .retN env S) D = D.rt .non S := by rw [evS]; rfl
theorem wr_if {t : Xp} {a b : Sms} : Wr (evS M (.iff t a b) env S) D = Wt M t env S fun k S1 => if k = true then Wr (evSs M a env S1) D else Wr (evSs M b env S1) D := by
  rw [evS, ← wp_evT]
  cases evT M t env S with
  | none => rfl
  | some p => obtain ⟨k, S1⟩ := p; cases k <;> simp [Wp]
theorem wr_cont : Wr (evS M .cont env S) D = D.ct env S := by rw [evS]; rfl
theorem wr_brk : Wr (evS M .brk env S) D = D.bk env S := by rw [evS]; rfl
theorem wr_pass : Wr (evS M .pass env S) D = D.nx env S := by rw [evS]; rfl
theorem wr_never : Wr (evS M .never env S) D = False := by rw [evS]; rfl
/-! ### targets -/
theorem wp_name {i : Nat} {w : W} {Q : Env → Store → Prop} : Wp (asgT M (.name i) w env S) Q = (i < env.length ∧ Q (env.set i (some w)) S) := by
  rw [asgT]
  by_cases h : i < env.length
  · rw [if_pos h]; exact propext ⟨fun q => ⟨h, q⟩, fun q => q.2⟩
  · rw [if_neg h]; exact propext ⟨fun q => q.elim, fun q => h q.1⟩
theorem wp_ttup {ts : Xts} {ws : List W} {Q : Env → Store → Prop} : Wp (asgT M (.tup ts) (.tup ws) env S) Q = Wp (asgTs M ts ws env S) Q := by rw [asgT]
theorem wp_tnil {Q : Env → Store → Prop} : Wp (asgTs M .nil [] env S) Q = Q env S := by rw [asgTs]; rfl
theorem wp_tcons {t : Xt} {r : Xts} {w : W} {ws : List W} {Q : Env → Store → Prop} : Wp (asgTs M (.cons t r) (w :: ws) env S) Q = Wp (asgT M t w env S) fun e S1 => Wp (asgTs M r ws e S1) Q := by
  rw [asgTs]; cases asgT M t w env S <;> rfl
theorem wp_tsub {o i : Xp} {w : W} {Q : Env → Store → Prop} : Wp (asgT M (.sub o i) w env S) Q = Wp (evE M o env S) fun x S1 => Wp (evE M i env S1) fun y S2 => Wo (setW S2 x y w) fun S3 => Q env S3 := by
  rw [asgT]
  cases evE M o env S with
  | none => rfl
  | some p =>
    obtain ⟨x, S1⟩ := p
    show Wp (match evE M i env S1 with | some (y, S2) => (setW S2 x y w).map fun S3 => (env, S3) | none => none) Q = Wp (evE M i env S1) _
    cases evE M i env S1 with
    | none => rfl
    | some p => obtain ⟨y, S2⟩ := p; show Wp ((setW S2 x y w).map fun S3 => (env, S3)) Q = Wo (setW S2 x y w) _; cases setW S2 x y w <;> rfl
/-! ### iterables -/
variable {Q : List W → Store → Prop}
theorem wi_seq {a : Xp} : Wp (evI M (.seq a) env S) Q = Wp (evE M a env S) fun x S1 => Wo (seqOf x) fun xs => Q xs S1 := by
  rw [evI]
  cases evE M a env S with
  | none => rfl
  | some p => obtain ⟨x, S1⟩ := p; show Wp ((seqOf x).map fun xs => (xs, S1)) Q = Wo (seqOf x) _; cases seqOf x <;> rfl
theorem wi_enum {a : Xp} : Wp (evI M (.enum a) env S) Q = Wp (evE M a env S) fun x S1 => Wo (seqOf x) fun xs => Q (enumW 0 xs) S1 := by
  rw [evI]
  cases evE M a env S with
  | none => rfl
  | some p => obtain ⟨x, S1⟩ := p; show Wp ((seqOf x).map fun xs => (enumW 0 xs, S1)) Q = Wo (seqOf x) _; cases seqOf x <;> rfl
theorem wi_range1 {a : Xp} : Wp (evI M (.range1 a) env S) Q = Wp (evE M a env S) fun x S1 => (match x with | .int j => (-(2 ^ 62) ≤ j ∧ j < 2 ^ 62) ∧ Q (rangeW 0 j.toNat) S1 | _ => False) := by
  rw [evI]
  cases evE M a env S with
  | none => rfl
  | some p =>
    obtain ⟨x, S1⟩ := p
    cases x with
    | int j =>
      show Wp (if -(2 ^ 62) ≤ j ∧ j < 2 ^ 62 then some (rangeW 0 j.toNat, S1) else none) Q = (_ ∧ _)
      by_cases h : -(2 ^ 62) ≤ j ∧ j < 2 ^ 62
      · rw [if_pos h]; exact propext ⟨fun q => ⟨h, q⟩, fun q => q.2⟩
      · rw [if_neg h]; exact propext ⟨fun q => q.elim, fun q => h q.1⟩
    | _ => rfl
theorem wi_range2 {a b : Xp} : Wp (evI M (.range2 a b) env S) Q = Wp (evE M a env S) fun x S1 => (match x with | .int i => Wp (evE M b env S1) fun y S2 => (match y with | .int j => (-(2 ^ 62) ≤ i ∧ i < 2 ^ 62 ∧ -(2 ^ 62) ≤ j ∧ j < 2 ^ 62) ∧ Q (rangeW i (j - i).toNat) S2 | _ => False) | _ => False) := by
  rw [evI]
  cases evE M a env S with
  | none => rfl
  | some p =>
    obtain ⟨x, S1⟩ := p
    cases x with
    | int i =>
      show Wp (match evE M b env S1 with | some (.int j, S2) => if -(2 ^ 62) ≤ i ∧ i < 2 ^ 62 ∧ -(2 ^ 62) ≤ j ∧ j < 2 ^ 62 then some (rangeW i (j - i).toNat, S2) else none | _ => none) Q = Wp (evE M b env S1) _
      cases evE M b env S1 with
      | none => rfl
      | some p =>
        obtain ⟨y, S2⟩ := p
        cases y with
        | int j =>
          show Wp (if -(2 ^ 62) ≤ i ∧ i < 2 ^ 62 ∧ -(2 ^ 62) ≤ j ∧ j < 2 ^ 62 then some (rangeW i (j - i).toNat, S2) else none) Q = (_ ∧ _)
          by_cases h : -(2 ^ 62) ≤ i ∧ i < 2 ^ 62 ∧ -(2 ^ 62) ≤ j ∧ j < 2 ^ 62
          · rw [if_pos h]; exact propext ⟨fun q => ⟨h, q⟩, fun q => q.2⟩
          · rw [if_neg h]; exact propext ⟨fun q => q.elim, fun q => h q.1⟩
        | _ => rfl
    | _ => rfl
theorem wi_zip2 {a b : Xp} : Wp (evI M (.zip2 a b) env S) Q = Wp (evE M a env S) fun x S1 => Wp (evE M b env S1) fun y S2 => Wo (seqOf x) fun xs => Wo (seqOf y) fun ys => Q (zip2W xs ys) S2 := by
  rw [evI]
  cases evE M a env S with
  | none => rfl
  | some p =>
    obtain ⟨x, S1⟩ := p
    show Wp (match evE M b env S1 with | some (y, S2) => (match seqOf x, seqOf y with | some xs, some ys => some (zip2W xs ys, S2) | _, _ => none) | none => none) Q = Wp (evE M b env S1) _
    cases evE M b env S1 with
    | none => rfl
    | some p => obtain ⟨y, S2⟩ := p; dsimp only [Wp]; cases seqOf x <;> cases seqOf y <;> rfl
/-! ### loops -/
theorem wr_for {t : Xt} {it : Xi} {b : Sms} : Wr (evS M (.for_ t it b) env S) D = Wp (evI M it env S) fun xs S1 => Wr (forGo (fun x env S => asgT M t x env S) (fun env S => evSs M b env S) xs env S1) D := by
  rw [evS]
  cases evI M it env S with
  | none => rfl
  | some p => rfl
theorem wr_forNil {tg : W → Env → Store → Option (Env × Store)} {body : Env → Store → Option Rs} : Wr (forGo tg body [] env S) D = D.nx env S := rfl
theorem wr_forCons {tg : W → Env → Store → Option (Env × Store)} {body : Env → Store → Option Rs} {x : W} {xs : List W} : Wr (forGo tg body (x :: xs) env S) D = Wp (tg x env S) fun e S1 => Wr (body e S1) { nx := fun e S => Wr (forGo tg body xs e S) D, ct := fun e S => Wr (forGo tg body xs e S) D, bk := D.nx, rt := D.rt } := by
  conv => lhs; unfold forGo
  cases tg x env S with
  | none => rfl
  | some p =>
    obtain ⟨e, S1⟩ := p
    dsimp only [Wp]
    cases body e S1 with
    | none => rfl
    | some q => cases q <;> rfl
/-- a loop by what holds at each turn -/
theorem wr_forI {tg : W → Env → Store → Option (Env × Store)} {body : Env → Store → Option Rs} (I : List W → Env → Store → Prop) (hs : ∀ x xs env S, I (x :: xs) env S → Wp (tg x env S) fun e S1 => Wr (body e S1) { nx := I xs, ct := I xs, bk := D.nx, rt := D.rt }) (he : ∀ env S, I [] env S → D.nx env S) :
    ∀ xs env S, I xs env S → Wr (forGo tg body xs env S) D
  | [], env, S, h => by rw [wr_forNil]; exact he env S h
  | x :: xs, env, S, h => by
    rw [wr_forCons]
    refine (hs x xs env S h).mono fun e S1 h1 => h1.mono (fun e S h2 => wr_forI I hs he xs e S h2) (fun _ _ z => z) (fun _ _ z => z) (fun e S h2 => wr_forI I hs he xs e S h2)
theorem wr_whl {t : Xp} {b : Sms} : Wr (evS M (.whl t b) env S) D = Wr (whlGo (fun env S => evT M t env S) (fun env S => evSs M b env S) M.fuel env S) D := by rw [evS]
theorem wr_whlI {test : Env → Store → Option (Bool × Store)} {body : Env → Store → Option Rs} (I : Nat → Env → Store → Prop)
    (hs : ∀ n env S, I n env S → Wp (test env S) fun k S1 => if k = true then Wr (body env S1) { nx := fun e S => ∃ m, m < n ∧ I m e S, ct := fun e S => ∃ m, m < n ∧ I m e S, bk := D.nx, rt := D.rt } else D.nx env S1) :
    ∀ (f n : Nat) env S, n < f → I n env S → Wr (whlGo test body f env S) D
  | 0, n, env, S, h, _ => absurd h (Nat.not_lt_zero n)
  | f + 1, n, env, S, h, i => by
    have h1 := hs n env S i
    unfold whlGo
    cases e : test env S with
    | none => rw [e] at h1; exact h1.elim
    | some p =>
      obtain ⟨k, S1⟩ := p
      rw [e] at h1
      have h1 : if k = true then Wr (body env S1) { nx := fun e S => ∃ m, m < n ∧ I m e S, ct := fun e S => ∃ m, m < n ∧ I m e S, bk := D.nx, rt := D.rt } else D.nx env S1 := h1
      cases k with
      | false => rw [if_neg Bool.false_ne_true] at h1; exact h1
      | true =>
        rw [if_pos rfl] at h1
        dsimp only
        cases eb : body env S1 with
        | none => rw [eb] at h1; exact h1.elim
        | some q =>
          rw [eb] at h1
          cases q with
          | next e S2 => obtain ⟨m, hm, im⟩ := h1; exact wr_whlI I hs f m e S2 (by omega) im
          | cont e S2 => obtain ⟨m, hm, im⟩ := h1; exact wr_whlI I hs f m e S2 (by omega) im
          | brk e S2 => exact h1
          | ret w S2 => exact h1
/-! ### comprehensions -/
def Wg (M : Sem) (elt : Xp) (tg : Xt) (ifs : Xps) (own : List Nat) (env : Env) (xs acc : List W) (S : Store) (Q : List W → Store → Prop) : Prop := Wp (compGo (stepC M elt tg ifs own env) xs acc S) Q
theorem wp_comp {elt : Xp} {tg : Xt} {it : Xi} {ifs : Xps} {own : List Nat} {Q : W → Store → Prop} : Wp (evE M (.comp elt tg it ifs own) env S) Q = Wp (evI M it env S) fun xs S1 => Wg M elt tg ifs own env xs [] S1 fun ys S2 => Q (.lst ys) S2 := by
  rw [evE]
  cases evI M it env S with
  | none => rfl
  | some p =>
    obtain ⟨xs, S1⟩ := p
    show Wp (match compGo (stepC M elt tg ifs own env) xs [] S1 with | some (ys, S2) => some (W.lst ys, S2) | none => none) Q = Wp (compGo (stepC M elt tg ifs own env) xs [] S1) _
    cases compGo (stepC M elt tg ifs own env) xs [] S1 <;> rfl
theorem wts_nil {Q : Bool → Store → Prop} : Wp (evTs M .nil env S) Q = Q true S := by rw [evTs]; rfl
theorem wts_one {a : Xp} {Q : Bool → Store → Prop} : Wp (evTs M (.cons a .nil) env S) Q = Wt M a env S Q := by
  rw [evTs]; unfold Wt
  cases evE M a env S with
  | none => rfl
  | some p =>
    obtain ⟨x, S1⟩ := p
    show Wp (match truW S1 x with | some true => evTs M .nil env S1 | some false => some (false, S1) | none => none) Q = Wo (truW S1 x) _
    cases truW S1 x with
    | none => rfl
    | some k => cases k with
      | true => rw [evTs]; rfl
      | false => rfl
theorem wg_nil {elt : Xp} {tg : Xt} {ifs : Xps} {own : List Nat} {acc : List W} : Wg M elt tg ifs own env [] acc S Q = Q acc S := rfl
theorem wg_cons {elt : Xp} {tg : Xt} {ifs : Xps} {own : List Nat} {x : W} {xs acc : List W} : Wg M elt tg ifs own env (x :: xs) acc S Q = Wp (asgT M tg x (wipeE env own) S) fun e S1 => Wp (evTs M ifs e S1) fun k S2 =>
    if k = true then Wp (evE M elt e S2) fun y S3 => acc.length < PySem.sizeLine ∧ Wg M elt tg ifs own env xs (acc ++ [y]) S3 Q else Wg M elt tg ifs own env xs acc S2 Q := by
  unfold Wg
  rw [show compGo (stepC M elt tg ifs own env) (x :: xs) acc S = (match stepC M elt tg ifs own env x S with
    | none => none
    | some (none, S') => compGo (stepC M elt tg ifs own env) xs acc S'
    | some (some y, S') => if acc.length < PySem.sizeLine then compGo (stepC M elt tg ifs own env) xs (acc ++ [y]) S' else none) from rfl]
  unfold stepC
  cases e1 : asgT M tg x (wipeE env own) S with
  | none => rfl
  | some p =>
    obtain ⟨e, S1⟩ := p
    dsimp only [Wp]
    cases e2 : evTs M ifs e S1 with
    | none => rfl
    | some p =>
      obtain ⟨k, S2⟩ := p
      dsimp only [Wp]
      cases k with
      | false => rw [if_neg Bool.false_ne_true]
      | true =>
        rw [if_pos rfl]
        dsimp only
        cases e3 : evE M elt e S2 with
        | none => rfl
        | some p =>
          obtain ⟨y, S3⟩ := p
          dsimp only [Wp]
          by_cases h : acc.length < PySem.sizeLine
          · rw [if_pos h]; exact propext ⟨fun q => ⟨h, q⟩, fun q => q.2⟩
          · rw [if_neg h]; exact propext ⟨fun q => q.elim, fun q => h q.1⟩
/-- a comprehension by what holds at each turn -/
theorem wg_I {elt : Xp} {tg : Xt} {ifs : Xps} {own : List Nat} (I : List W → List W → Store → Prop) (hs : ∀ x xs acc S, I (x :: xs) acc S → Wp (asgT M tg x (wipeE env own) S) fun e S1 => Wp (evTs M ifs e S1) fun k S2 =>
    if k = true then Wp (evE M elt e S2) fun y S3 => acc.length < PySem.sizeLine ∧ I xs (acc ++ [y]) S3 else I xs acc S2) (he : ∀ acc S, I [] acc S → Q acc S) : ∀ xs acc S, I xs acc S → Wg M elt tg ifs own env xs acc S Q
  | [], acc, S, h => by rw [wg_nil]; exact he acc S h
  | x :: xs, acc, S, h => by
    rw [wg_cons]
    refine (hs x xs acc S h).mono fun e S1 h1 => h1.mono fun k S2 h2 => ?_
    cases k with
    | false => rw [if_neg Bool.false_ne_true] at h2 ⊢; exact wg_I I hs he xs acc S2 h2
    | true => rw [if_pos rfl] at h2 ⊢; exact h2.mono fun y S3 h3 => ⟨h3.1, wg_I I hs he xs _ S3 h3.2⟩

/-! ### defs -/
theorem wp_callF {d : FDef} {ds : List W} {Q : W → Store → Prop} (hl : ds.length = d.params) (h : Wr (evSs { M with n0 := S.length } d.body (ds.map some ++ List.replicate (d.vars - ds.length) none) S) { nx := fun _ S1 => d.fr = false ∧ Q .non S1, rt := Q }) : Wp (callF M d ds S) Q := by
  unfold callF
  rw [if_pos hl]
  cases e : evSs { M with n0 := S.length } d.body (ds.map some ++ List.replicate (d.vars - ds.length) none) S with
  | none => rw [e] at h; exact h.elim
  | some q =>
    rw [e] at h
    cases q with
    | next env S1 =>
      obtain ⟨h1, h2⟩ := h
      show Wp (if d.fr = true then none else some (W.non, S1)) Q
      rw [h1, if_neg Bool.false_ne_true]; exact h2
    | ret w S1 => exact h
    | brk env S1 => exact h.elim
    | cont env S1 => exact h.elim
/-- from some level on the def answers so -/
def At (L : List Dt) (con : Nat → W) (fuel k f : Nat) (ds : List W) (S : Store) (Q : W → Store → Prop) : Prop := ∀ k', k ≤ k' → Wp (run (tblOf L) con fuel k' f ds S) Q
theorem At.mono {L : List Dt} {con : Nat → W} {fuel k f : Nat} {ds : List W} {Q Q' : W → Store → Prop} (h : At L con fuel k f ds S Q) (i : ∀ w S, Q w S → Q' w S) : At L con fuel k f ds S Q' := fun k' hk => (h k' hk).mono i
theorem At.up {L : List Dt} {con : Nat → W} {fuel k k2 f : Nat} {ds : List W} {Q : W → Store → Prop} (h : At L con fuel k f ds S Q) (i : k ≤ k2) : At L con fuel k2 f ds S Q := fun k' hk => h k' (Nat.le_trans i hk)
theorem at_def {L : List Dt} {con : Nat → W} {fuel k f : Nat} {q : Dt} {ds : List W} {Q : W → Store → Prop} (hq : L[f]? = some q) (hl : ds.length = q.d.params)
    (h : ∀ (M : Sem), (∀ f ds S Q, At L con fuel k f ds S Q → Wc M f ds S Q) → M.fuel = fuel → (∀ c, M.con c = con c) → (∀ f, M.fr f = ((tblOf L)[f]?).any (·.fr)) → Wr (evSs M q.d.body (ds.map some ++ List.replicate (q.d.vars - ds.length) none) S) { nx := fun _ S1 => q.d.fr = false ∧ Q .non S1, rt := Q }) : At L con fuel (k + 1) f ds S Q := by
  intro k' hk
  obtain ⟨j, rfl⟩ : ∃ j, k' = j + 1 := ⟨k' - 1, by omega⟩
  show Wp (match (tblOf L)[f]? with | some d => callF (semOf (tblOf L) con fuel (run (tblOf L) con fuel j)) d ds S | none => none) Q
  rw [List.getElem?_map, hq]
  exact wp_callF hl (h _ (fun f ds S Q a => a j (by omega)) rfl (fun _ => rfl) fun _ => rfl)
theorem wq_of {f : Nat} {ds : List W} {Q : W → Prop} (h : Wc M f ds [] fun w _ => w.free = true ∧ Q w) : Wq M f ds Q := h
end
/-! ### operators on known kinds -/
section
variable {S : Store} {a b : Int} {Q : W → Prop}
theorem ob_add : Wo (binW S .add (.int a) (.int b)) Q = Q (.int (a + b)) := rfl
theorem ob_sub : Wo (binW S .sub (.int a) (.int b)) Q = Q (.int (a - b)) := rfl
def MulOk (a b : Int) : Prop := (a.natAbs < 2 ^ 64 ∨ b.natAbs < 2 ^ 64) ∨ a.natAbs.log2 + b.natAbs.log2 < 100000000
theorem ob_mul : Wo (binW S .mul (.int a) (.int b)) Q = (MulOk a b ∧ Q (.int (a * b))) := wo_if
def DivOk (a b : Int) : Prop := b ≠ 0 ∧ PySem.Builtin.divisionGoesByPylong a b = false
theorem ob_fdiv : Wo (binW S .fdiv (.int a) (.int b)) Q = (DivOk a b ∧ Q (.int (a.fdiv b))) := wo_if
theorem ob_mod : Wo (binW S .mod (.int a) (.int b)) Q = (b ≠ 0 ∧ Q (.int (a.fmod b))) := wo_if
theorem ob_pow : Wo (binW S .pow (.int a) (.int b)) Q = ((0 ≤ b ∧ b ≤ 1000000 ∧ a.natAbs < 2 ^ 64) ∧ Q (.int (a ^ b.toNat))) := wo_if
theorem oc_lt : Wo (cmpW S .lt (.int a) (.int b)) Q = Q (.bl (decide (a < b))) := rfl
theorem oc_le : Wo (cmpW S .le (.int a) (.int b)) Q = Q (.bl (decide (a ≤ b))) := rfl
theorem oc_gt : Wo (cmpW S .gt (.int a) (.int b)) Q = Q (.bl (decide (b < a))) := rfl
theorem oc_ge : Wo (cmpW S .ge (.int a) (.int b)) Q = Q (.bl (decide (b ≤ a))) := rfl
theorem oc_eqI : Wo (cmpW S .eq (.int a) (.int b)) Q = Q (.bl (decide (a = b))) := by
  show Wo ((W.same (.int a) (.int b)).map W.bl) Q = _
  have : W.same (.int a) (.int b) = some (decide (a = b)) := rfl
  rw [this]; rfl
theorem oc_neI : Wo (cmpW S .ne (.int a) (.int b)) Q = Q (.bl (!decide (a = b))) := by
  show Wo ((W.same (.int a) (.int b)).map fun k => W.bl (!k)) Q = _
  have : W.same (.int a) (.int b) = some (decide (a = b)) := rfl
  rw [this]; rfl
theorem oc_isN {x : W} : Wo (cmpW S .isN x .non) Q = Q (.bl (match x with | .non => true | _ => false)) := by cases x <;> rfl
theorem oc_notN {x : W} : Wo (cmpW S .notN x .non) Q = Q (.bl (match x with | .non => false | _ => true)) := by cases x <;> rfl
theorem ot_bl {c : Bool} {Q : Bool → Prop} : Wo (truW S (.bl c)) Q = Q c := rfl
theorem ot_int {Q : Bool → Prop} : Wo (truW S (.int a)) Q = Q (a != 0) := rfl
theorem ol_abs : Wo (bltW S .abs [.int a]) Q = Q (.int (if a < 0 then -a else a)) := rfl
theorem ol_max : Wo (bltW S .max2 [.int a, .int b]) Q = Q (.int (if b > a then b else a)) := rfl
theorem ol_min : Wo (bltW S .min2 [.int a, .int b]) Q = Q (.int (if b < a then b else a)) := rfl
theorem ol_intI : Wo (bltW S .int [.int a]) Q = Q (.int a) := rfl
theorem ol_intB {c : Bool} : Wo (bltW S .int [.bl c]) Q = Q (.int (if c then 1 else 0)) := rfl
theorem ol_gcd : Wo (bltW S .gcd [.int a, .int b]) Q = Q (.int (a.natAbs.gcd b.natAbs : Nat)) := rfl
theorem ol_lenT {xs : List W} : Wo (bltW S .len [.tup xs]) Q = Q (.int xs.length) := rfl
theorem ol_lenL {xs : List W} : Wo (bltW S .len [.lst xs]) Q = Q (.int xs.length) := rfl
theorem ol_lenR {xs : List W} : Wo (bltW S .len [.ro xs]) Q = Q (.int xs.length) := rfl
end
section
variable {M : Sem} {env : Env} {S : Store} {D : Dn} {Q : W → Store → Prop}
theorem wp_cat {a b : Xp} : Wp (evE M (.cat a b) env S) Q = Wp (evE M a env S) fun x S1 => (match x with | .lst xs => Wp (evE M b env S1) fun y S2 => (match y with | .lst ys => xs.length + ys.length ≤ PySem.sizeLine ∧ Q (.lst (xs ++ ys)) S2 | _ => False) | _ => False) := by
  rw [evE]
  cases evE M a env S with
  | none => rfl
  | some p =>
    obtain ⟨x, S1⟩ := p
    cases x with
    | lst xs =>
      dsimp only [Wp]
      cases evE M b env S1 with
      | none => rfl
      | some p =>
        obtain ⟨y, S2⟩ := p
        cases y with
        | lst ys =>
          dsimp only
          by_cases h : xs.length + ys.length ≤ PySem.sizeLine
          · rw [if_pos h]; exact propext ⟨fun q => ⟨h, q⟩, fun q => q.2⟩
          · rw [if_neg h]; exact propext ⟨fun q => q.elim, fun q => h q.1⟩
        | _ => rfl
    | _ => rfl
theorem wr_freeze {i : Nat} : Wr (evS M (.freeze i) env S) D = Wo (env[i]?).join fun w => (match w with | .loc n => Wo (S[n]?).join fun ds => D.nx (env.set i (some (.lst ds))) (S.set n none) | _ => False) := by
  rw [evS]
  cases (env[i]?).join with
  | none => rfl
  | some w =>
    cases w with
    | loc n => dsimp only [Wo]; cases (S[n]?).join <;> rfl
    | _ => rfl
theorem om_append {n : Nat} {x : W} : Wp (methW S .append (.loc n) [x]) Q = Wo (S[n]?).join fun xs => xs.length < PySem.sizeLine ∧ Q .non (S.set n (some (xs ++ [x]))) := by
  show Wp (match (S[n]?).join with | some xs => if xs.length < PySem.sizeLine then some (W.non, S.set n (some (xs ++ [x]))) else none | none => none) Q = _
  cases (S[n]?).join with
  | none => rfl
  | some xs =>
    dsimp only [Wo]
    by_cases h : xs.length < PySem.sizeLine
    · rw [if_pos h]; exact propext ⟨fun q => ⟨h, q⟩, fun q => q.2⟩
    · rw [if_neg h]; exact propext ⟨fun q => q.elim, fun q => h q.1⟩
theorem om_extend {n : Nat} {ys : List W} : Wp (methW S .extend (.loc n) [.lst ys]) Q = Wo (S[n]?).join fun xs => xs.length + ys.length ≤ PySem.sizeLine ∧ Q .non (S.set n (some (xs ++ ys))) := by
  show Wp (match (S[n]?).join with | some xs => if xs.length + ys.length ≤ PySem.sizeLine then some (W.non, S.set n (some (xs ++ ys))) else none | none => none) Q = _
  cases (S[n]?).join with
  | none => rfl
  | some xs =>
    dsimp only [Wo]
    by_cases h : xs.length + ys.length ≤ PySem.sizeLine
    · rw [if_pos h]; exact propext ⟨fun q => ⟨h, q⟩, fun q => q.2⟩
    · rw [if_neg h]; exact propext ⟨fun q => q.elim, fun q => h q.1⟩
theorem lo_loc {n : Nat} : listOf S (.loc n) = (S[n]?).join := rfl
end
def dn_Ev2 : List Lean.Name := [`wrs_nil, `wrs_cons, `wr_asg, `wr_expr, `wr_ret, `wr_retN, `wr_cont, `wr_brk, `wr_pass, `wr_never, `wp_ttup, `wp_tnil, `wp_tcons, `wp_tsub, `wi_seq, `wi_enum, `wi_range1, `wi_range2, `wi_zip2, `wts_nil, `wts_one, `ob_add, `ob_sub, `ob_mul, `ob_fdiv, `ob_mod, `ob_pow, `oc_lt, `oc_le, `oc_gt, `oc_ge, `oc_eqI, `oc_neI, `oc_isN, `oc_notN, `ot_bl, `ot_int, `ol_abs, `ol_max, `ol_min, `ol_intI, `ol_intB, `ol_gcd, `ol_lenT, `ol_lenL, `ol_lenR, `wp_cat, `wr_freeze, `om_append, `om_extend, `lo_loc]
def up_Ev2 : List Lean.Name := []
end Rf

namespace Rf
/-! ### isinstance, items -/
theorem oi_non_bool {c : Bool} {a : Int} {z : PySem.Str} {xs : List W} {Q : Bool → Prop} : Wo (isiW .non ["bool"]) Q = Q false := rfl
theorem oi_non_int {c : Bool} {a : Int} {z : PySem.Str} {xs : List W} {Q : Bool → Prop} : Wo (isiW .non ["int"]) Q = Q false := rfl
theorem oi_non_str {c : Bool} {a : Int} {z : PySem.Str} {xs : List W} {Q : Bool → Prop} : Wo (isiW .non ["str"]) Q = Q false := rfl
theorem oi_non_tuple {c : Bool} {a : Int} {z : PySem.Str} {xs : List W} {Q : Bool → Prop} : Wo (isiW .non ["tuple"]) Q = Q false := rfl
theorem oi_non_list {c : Bool} {a : Int} {z : PySem.Str} {xs : List W} {Q : Bool → Prop} : Wo (isiW .non ["list"]) Q = Q false := rfl
theorem oi_non_dict {c : Bool} {a : Int} {z : PySem.Str} {xs : List W} {Q : Bool → Prop} : Wo (isiW .non ["dict"]) Q = Q false := rfl
theorem oi_bl_bool {c : Bool} {a : Int} {z : PySem.Str} {xs : List W} {Q : Bool → Prop} : Wo (isiW (.bl c) ["bool"]) Q = Q true := rfl
theorem oi_bl_int {c : Bool} {a : Int} {z : PySem.Str} {xs : List W} {Q : Bool → Prop} : Wo (isiW (.bl c) ["int"]) Q = Q true := rfl
theorem oi_bl_str {c : Bool} {a : Int} {z : PySem.Str} {xs : List W} {Q : Bool → Prop} : Wo (isiW (.bl c) ["str"]) Q = Q false := rfl
theorem oi_bl_tuple {c : Bool} {a : Int} {z : PySem.Str} {xs : List W} {Q : Bool → Prop} : Wo (isiW (.bl c) ["tuple"]) Q = Q false := rfl
theorem oi_bl_list {c : Bool} {a : Int} {z : PySem.Str} {xs : List W} {Q : Bool → Prop} : Wo (isiW (.bl c) ["list"]) Q = Q false := rfl
theorem oi_bl_dict {c : Bool} {a : Int} {z : PySem.Str} {xs : List W} {Q : Bool → Prop} : Wo (isiW (.bl c) ["dict"]) Q = Q false := rfl
theorem oi_int_bool {c : Bool} {a : Int} {z : PySem.Str} {xs : List W} {Q : Bool → Prop} : Wo (isiW (.int a) ["bool"]) Q = Q false := rfl
theorem oi_int_int {c : Bool} {a : Int} {z : PySem.Str} {xs : List W} {Q : Bool → Prop} : Wo (isiW (.int a) ["int"]) Q = Q true := rfl
theorem oi_int_str {c : Bool} {a : Int} {z : PySem.Str} {xs : List W} {Q : Bool → Prop} : Wo (isiW (.int a) ["str"]) Q = Q false := rfl
theorem oi_int_tuple {c : Bool} {a : Int} {z : PySem.Str} {xs : List W} {Q : Bool → Prop} : Wo (isiW (.int a) ["tuple"]) Q = Q false := rfl
theorem oi_int_list {c : Bool} {a : Int} {z : PySem.Str} {xs : List W} {Q : Bool → Prop} : Wo (isiW (.int a) ["list"]) Q = Q false := rfl
theorem oi_int_dict {c : Bool} {a : Int} {z : PySem.Str} {xs : List W} {Q : Bool → Prop} : Wo (isiW (.int a) ["dict"]) Q = Q false := rfl
theorem oi_str_bool {c : Bool} {a : Int} {z : PySem.Str} {xs : List W} {Q : Bool → Prop} : Wo (isiW (.str z) ["bool"]) Q = Q false := rfl
theorem oi_str_int {c : Bool} {a : Int} {z : PySem.Str} {xs : List W} {Q : Bool → Prop} : Wo (isiW (.str z) ["int"]) Q = Q false := rfl
theorem oi_str_str {c : Bool} {a : Int} {z : PySem.Str} {xs : List W} {Q : Bool → Prop} : Wo (isiW (.str z) ["str"]) Q = Q true := rfl
theorem oi_str_tuple {c : Bool} {a : Int} {z : PySem.Str} {xs : List W} {Q : Bool → Prop} : Wo (isiW (.str z) ["tuple"]) Q = Q false := rfl
theorem oi_str_list {c : Bool} {a : Int} {z : PySem.Str} {xs : List W} {Q : Bool → Prop} : Wo (isiW (.str z) ["list"]) Q = Q false := rfl
theorem oi_str_dict {c : Bool} {a : Int} {z : PySem.Str} {xs : List W} {Q : Bool → Prop} : Wo (isiW (.str z) ["dict"]) Q = Q false := rfl
theorem oi_tup_bool {c : Bool} {a : Int} {z : PySem.Str} {xs : List W} {Q : Bool → Prop} : Wo (isiW (.tup xs) ["bool"]) Q = Q false := rfl
theorem oi_tup_int {c : Bool} {a : Int} {z : PySem.Str} {xs : List W} {Q : Bool → Prop} : Wo (isiW (.tup xs) ["int"]) Q = Q false := rfl
theorem oi_tup_str {c : Bool} {a : Int} {z : PySem.Str} {xs : List W} {Q : Bool → Prop} : Wo (isiW (.tup xs) ["str"]) Q = Q false := rfl
theorem oi_tup_tuple {c : Bool} {a : Int} {z : PySem.Str} {xs : List W} {Q : Bool → Prop} : Wo (isiW (.tup xs) ["tuple"]) Q = Q true := rfl
theorem oi_tup_list {c : Bool} {a : Int} {z : PySem.Str} {xs : List W} {Q : Bool → Prop} : Wo (isiW (.tup xs) ["list"]) Q = Q false := rfl
theorem oi_tup_dict {c : Bool} {a : Int} {z : PySem.Str} {xs : List W} {Q : Bool → Prop} : Wo (isiW (.tup xs) ["dict"]) Q = Q false := rfl
theorem oi_lst_bool {c : Bool} {a : Int} {z : PySem.Str} {xs : List W} {Q : Bool → Prop} : Wo (isiW (.lst xs) ["bool"]) Q = Q false := rfl
theorem oi_lst_int {c : Bool} {a : Int} {z : PySem.Str} {xs : List W} {Q : Bool → Prop} : Wo (isiW (.lst xs) ["int"]) Q = Q false := rfl
theorem oi_lst_str {c : Bool} {a : Int} {z : PySem.Str} {xs : List W} {Q : Bool → Prop} : Wo (isiW (.lst xs) ["str"]) Q = Q false := rfl
theorem oi_lst_tuple {c : Bool} {a : Int} {z : PySem.Str} {xs : List W} {Q : Bool → Prop} : Wo (isiW (.lst xs) ["tuple"]) Q = Q false := rfl
theorem oi_lst_list {c : Bool} {a : Int} {z : PySem.Str} {xs : List W} {Q : Bool → Prop} : Wo (isiW (.lst xs) ["list"]) Q = Q true := rfl
theorem oi_lst_dict {c : Bool} {a : Int} {z : PySem.Str} {xs : List W} {Q : Bool → Prop} : Wo (isiW (.lst xs) ["dict"]) Q = Q false := rfl
theorem oi_edict_bool {c : Bool} {a : Int} {z : PySem.Str} {xs : List W} {Q : Bool → Prop} : Wo (isiW .edict ["bool"]) Q = Q false := rfl
theorem oi_edict_int {c : Bool} {a : Int} {z : PySem.Str} {xs : List W} {Q : Bool → Prop} : Wo (isiW .edict ["int"]) Q = Q false := rfl
theorem oi_edict_str {c : Bool} {a : Int} {z : PySem.Str} {xs : List W} {Q : Bool → Prop} : Wo (isiW .edict ["str"]) Q = Q false := rfl
theorem oi_edict_tuple {c : Bool} {a : Int} {z : PySem.Str} {xs : List W} {Q : Bool → Prop} : Wo (isiW .edict ["tuple"]) Q = Q false := rfl
theorem oi_edict_list {c : Bool} {a : Int} {z : PySem.Str} {xs : List W} {Q : Bool → Prop} : Wo (isiW .edict ["list"]) Q = Q false := rfl
theorem oi_edict_dict {c : Bool} {a : Int} {z : PySem.Str} {xs : List W} {Q : Bool → Prop} : Wo (isiW .edict ["dict"]) Q = Q true := rfl
section
variable {S : Store} {Q : W → Prop} {xs : List W} {n : Nat}
theorem os_tup {k : Int} : Wo (subW S (.tup xs) (.int k)) Q = Wo (L2.atI xs k) Q := rfl
theorem os_lst {k : Int} : Wo (subW S (.lst xs) (.int k)) Q = Wo (L2.atI xs k) Q := rfl
theorem os_ro {k : Int} : Wo (subW S (.ro xs) (.int k)) Q = Wo (L2.atI xs k) Q := rfl
theorem os_loc {k : Int} : Wo (subW S (.loc n) (.int k)) Q = Wo (S[n]?).join fun xs => Wo (L2.atI xs k) Q := by
  show Wo (match (S[n]?).join with | some xs => L2.atI xs k | none => none) Q = _
  cases (S[n]?).join <;> rfl
theorem oset_loc {k : Int} {v : W} {Q : Store → Prop} : Wo (setW S (.loc n) (.int k) v) Q = Wo (S[n]?).join fun xs => Wo (L2.ixN xs.length k) fun j => Q (S.set n (some (xs.set j v))) := by
  show Wo (match (S[n]?).join with | some xs => (match L2.ixN xs.length k with | some j => some (S.set n (some (xs.set j v))) | none => none) | none => none) Q = _
  cases (S[n]?).join with
  | none => rfl
  | some xs => dsimp only [Wo]; cases L2.ixN xs.length k <;> rfl
theorem at0 {x : W} : L2.atI (x :: xs) 0 = some x := by
  unfold L2.atI L2.ixN
  rw [if_pos (by omega), if_pos (by simp only [List.length_cons]; omega)]; rfl
theorem at1 {x y : W} : L2.atI (x :: y :: xs) 1 = some y := by
  unfold L2.atI L2.ixN
  rw [if_pos (by omega), if_pos (by simp only [List.length_cons]; omega)]; rfl
theorem at2 {x y z : W} : L2.atI (x :: y :: z :: xs) 2 = some z := by
  unfold L2.atI L2.ixN
  rw [if_pos (by omega), if_pos (by simp only [List.length_cons]; omega)]; rfl
theorem at3 {x y z u : W} : L2.atI (x :: y :: z :: u :: xs) 3 = some u := by
  unfold L2.atI L2.ixN
  rw [if_pos (by omega), if_pos (by simp only [List.length_cons]; omega)]; rfl
theorem at_nat {i : Nat} (h : i < xs.length) : L2.atI xs (i : Int) = some xs[i] := by
  unfold L2.atI L2.ixN
  rw [if_pos (by omega), if_pos (by omega)]
  simp [List.getElem?_eq_getElem h]
theorem at_int {k : Int} (h0 : 0 ≤ k) (h : k < xs.length) : ∃ x, L2.atI xs k = some x ∧ x ∈ xs := by
  obtain ⟨i, rfl⟩ := Int.eq_ofNat_of_zero_le h0
  exact ⟨_, at_nat (by omega), List.getElem_mem _⟩
theorem ix_two0 : L2.ixN 2 0 = some 0 := by decide
theorem ix_two1 : L2.ixN 2 1 = some 1 := by decide
end

/-! ### calls by promises -/
def Fn (L : List Dt) (con : Nat → W) (fuel k f : Nat) (ds : List W) (Q : W → Prop) : Prop := At L con fuel k f ds [] fun w _ => w.free = true ∧ Q w
section
variable {L : List Dt} {con : Nat → W} {fuel k f : Nat} {M : Sem} {ds : List W} {Q : W → Prop}
theorem Fn.wq (h : Fn L con fuel k f ds Q) (hM : ∀ f ds S Q, At L con fuel k f ds S Q → Wc M f ds S Q) : Wq M f ds Q := hM _ _ _ _ h
theorem Fn.wqm {Q' : W → Prop} (h : Fn L con fuel k f ds Q) (hM : ∀ f ds S Q, At L con fuel k f ds S Q → Wc M f ds S Q) (i : ∀ w, Q w → Q' w) : Wq M f ds Q' := (hM _ _ _ _ h).mono fun w _ h => ⟨h.1, i w h.2⟩
theorem Fn.eq {v : W} {Q' : W → Prop} (h : Fn L con fuel k f ds (· = v)) (hM : ∀ f ds S Q, At L con fuel k f ds S Q → Wc M f ds S Q) (i : Q' v) : Wq M f ds Q' := h.wqm hM fun w e => by rw [e]; exact i
theorem Fn.wk {v : W} {S : Store} {Q' : W → Store → Prop} (h : Fn L con fuel k f ds (· = v)) (hM : ∀ f ds S Q, At L con fuel k f ds S Q → Wc M f ds S Q) (hf : W.frees ds = true) (i : Q' v S) : Wk M f ds S Q' := by
  rw [wk_free hf]; exact h.eq hM i
theorem Fn.up {k2 : Nat} (h : Fn L con fuel k f ds Q) (i : k ≤ k2) : Fn L con fuel k2 f ds Q := At.up h i
end

theorem fr1 {w : W} (h : w.free = true) : W.frees [w] = true := by show (w.free && true) = true; rw [h]; rfl
theorem fr2 {w u : W} (h : w.free = true) (h' : u.free = true) : W.frees [w, u] = true := by show (w.free && (u.free && true)) = true; rw [h, h']; rfl
/-! ### sizes -/
def Sz (n : Nat) (a : Int) : Prop := a.natAbs < 2 ^ n
theorem Sz.up {n m : Nat} {a : Int} (h : Sz n a) (i : n ≤ m) : Sz m a := Nat.lt_of_lt_of_le h (Nat.pow_le_pow_right (by omega) i)
theorem Sz.log {n : Nat} {a : Int} (h : Sz n a) : a.natAbs.log2 ≤ n := by
  by_cases h0 : a.natAbs = 0
  · rw [h0]; exact Nat.zero_le n
  · exact Nat.le_of_lt ((Nat.log2_lt h0).mpr h)
theorem Sz.mulOk {n m : Nat} {a b : Int} (h : Sz n a) (h' : Sz m b) (i : n + m < 100000000) : MulOk a b := .inr (by have := h.log; have := h'.log; omega)
theorem Sz.mul {n m : Nat} {a b : Int} (h : Sz n a) (h' : Sz m b) : Sz (n + m) (a * b) := by
  unfold Sz at *
  rw [Int.natAbs_mul, Nat.pow_add]
  exact Nat.mul_lt_mul'' h h'
theorem Sz.add {n : Nat} {a b : Int} (h : Sz n a) (h' : Sz n b) : Sz (n + 1) (a + b) := by
  unfold Sz at *
  rw [Nat.pow_succ]
  have := Int.natAbs_add_le a b
  omega
theorem Sz.sub {n : Nat} {a b : Int} (h : Sz n a) (h' : Sz n b) : Sz (n + 1) (a - b) := by
  unfold Sz at *
  rw [Nat.pow_succ]
  have := Int.natAbs_sub_le a b
  omega
theorem Sz.neg {n : Nat} {a : Int} (h : Sz n a) : Sz n (-a) := by unfold Sz at *; rw [Int.natAbs_neg]; exact h
theorem Sz.divOk {n : Nat} {a b : Int} (h : Sz n b) (h0 : b ≠ 0) (i : n < 9000) : DivOk a b := ⟨h0, PyProof.noPylong_of_log2 (by have := h.log; omega)⟩

/-! ### rationals as values -/
def rq (q : Rat) : W := .tup [.int q.num, .int q.den]
theorem rq_free (q : Rat) : (rq q).free = true := rfl
/-- a value that is a number -/
def IsNum (w : W) (q : Rat) : Prop := w = rq q ∨ ∃ i : Int, w = .int i ∧ q = (i : Rat)
def Rz (n : Nat) (q : Rat) : Prop := Sz n q.num ∧ Sz n (q.den : Int)
theorem rq_int (i : Int) : rq (i : Rat) = .tup [.int i, .int 1] := rfl
theorem Rz.up {n m : Nat} {q : Rat} (h : Rz n q) (i : n ≤ m) : Rz m q := ⟨h.1.up i, h.2.up i⟩
theorem fdiv_exact {g a : Int} (h : g ≠ 0) : (g * a).fdiv g = a := by rw [Int.mul_comm]; exact Int.mul_fdiv_cancel _ h
/-- the lowest terms -/
theorem low_terms {a b : Int} (hb : b ≠ 0) : ∃ g : Int, 0 < g ∧ g = (a.natAbs.gcd b.natAbs : Nat) ∧ a * b.sign = g * (Rat.divInt a b).num ∧ (b.natAbs : Int) = g * (Rat.divInt a b).den := by
  refine ⟨(a.natAbs.gcd b.natAbs : Nat), ?_, rfl, ?_, ?_⟩
  · have : 0 < a.natAbs.gcd b.natAbs := Nat.gcd_pos_of_pos_right _ (Int.natAbs_pos.mpr hb)
    omega
  · rw [Rat.num_divInt]
    have hd : ((a.natAbs.gcd b.natAbs : Nat) : Int) ∣ b.sign * a := Int.dvd_trans (Int.ofNat_dvd_left.mpr (Nat.gcd_dvd_left _ _)) (Int.dvd_mul_left _ _)
    rw [show (b.gcd a : Nat) = a.natAbs.gcd b.natAbs from Nat.gcd_comm _ _, Int.mul_ediv_cancel' hd, Int.mul_comm]
  · rw [Rat.den_divInt, if_neg hb, show (b.gcd a : Nat) = a.natAbs.gcd b.natAbs from Nat.gcd_comm _ _]
    rw [← Int.natCast_mul, Nat.mul_div_cancel' (Nat.gcd_dvd_right _ _)]
theorem Rz.of {n : Nat} {a b : Int} (hb : b ≠ 0) (h1 : Sz n a) (h2 : Sz n b) : Rz n (Rat.divInt a b) := by
  obtain ⟨g, g1, g2, g3, g4⟩ := low_terms (a := a) hb
  constructor
  · unfold Sz at *
    have : a.natAbs = g.natAbs * (Rat.divInt a b).num.natAbs := by
      have := congrArg Int.natAbs g3
      rw [Int.natAbs_mul, Int.natAbs_mul, Int.natAbs_sign_of_ne_zero hb, Nat.mul_one] at this
      exact this
    have h3 : 1 ≤ g.natAbs := by omega
    have := Nat.mul_le_mul_right (Rat.divInt a b).num.natAbs h3
    omega
  · unfold Sz at *
    have : b.natAbs = g.natAbs * (Rat.divInt a b).den := by
      have := congrArg Int.natAbs g4
      rw [Int.natAbs_mul] at this
      simpa using this
    have h3 : 1 ≤ g.natAbs := by omega
    have := Nat.mul_le_mul_right (Rat.divInt a b).den h3
    simp only [Int.natAbs_natCast]
    omega
def dn_Ev3a : List Lean.Name := [`oi_non_bool, `oi_non_int, `oi_non_str, `oi_non_tuple, `oi_non_list, `oi_non_dict, `oi_bl_bool, `oi_bl_int, `oi_bl_str, `oi_bl_tuple, `oi_bl_list, `oi_bl_dict, `oi_int_bool, `oi_int_int, `oi_int_str, `oi_int_tuple, `oi_int_list, `oi_int_dict, `oi_str_bool, `oi_str_int, `oi_str_str, `oi_str_tuple, `oi_str_list, `oi_str_dict, `oi_tup_bool, `oi_tup_int, `oi_tup_str, `oi_tup_tuple, `oi_tup_list, `oi_tup_dict, `oi_lst_bool, `oi_lst_int, `oi_lst_str, `oi_lst_tuple, `oi_lst_list, `oi_lst_dict, `oi_edict_bool, `oi_edict_int, `oi_edict_str, `oi_edict_tuple, `oi_edict_list, `oi_edict_dict, `os_tup, `os_lst, `os_ro, `os_loc, `oset_loc]
def up_Ev3a : List Lean.Name := [`at0, `at1, `at2, `at3]
end Rf

namespace Rf
local macro_rules | `(tactic| walk_at "rf") => `(tactic| simp only [wp_var, wp_cst, wp_con, wp_edict, wps_nil, wps_cons, wp_tup, wp_lst, wp_bin, wp_cmp, wp_sub, wp_neg, wp_nott, wp_andd, wp_orr, wp_ite, wp_blt, wp_isi, wp_call, wp_callS, wp_callK, wp_meth, wp_thaw, wp_slc, wp_intPart, Wt,
  wrs_nil, wrs_cons, wr_asg, wr_expr, wr_ret, wr_retN, wr_if, wr_cont, wr_brk, wr_pass, wr_never, wp_name, wp_ttup, wp_tnil, wp_tcons, wp_tsub, wi_seq, wi_enum, wi_range1, wi_range2, wi_zip2, wr_for, wp_comp, wts_nil, wts_one, wp_cat, wk_free, wp_repr, wr_freeze, om_append, om_extend, lo_loc, Option.isSome_some, List.append_nil,
  ob_add, ob_sub, ob_mul, ob_fdiv, ob_mod, ob_pow, oc_lt, oc_le, oc_gt, oc_ge, oc_eqI, oc_neI, oc_isN, oc_notN, ot_bl, ot_int, ol_abs, ol_max, ol_min, ol_intI, ol_intB, ol_gcd, ol_lenT, ol_lenL, ol_lenR,
  oi_non_bool, oi_non_int, oi_non_str, oi_non_tuple, oi_non_list, oi_non_dict, oi_bl_bool, oi_bl_int, oi_bl_str, oi_bl_tuple, oi_bl_list, oi_bl_dict, oi_int_bool, oi_int_int, oi_int_str, oi_int_tuple, oi_int_list, oi_int_dict, oi_str_bool, oi_str_int, oi_str_str, oi_str_tuple, oi_str_list, oi_str_dict, oi_tup_bool, oi_tup_int, oi_tup_str, oi_tup_tuple, oi_tup_list, oi_tup_dict, oi_lst_bool, oi_lst_int, oi_lst_str, oi_lst_tuple, oi_lst_list, oi_lst_dict, oi_edict_bool, oi_edict_int, oi_edict_str, oi_edict_tuple, oi_edict_list, oi_edict_dict, os_tup, os_lst, os_ro, os_loc, oset_loc, at0, at1, at2, at3, ix_two0, ix_two1, wipeE, arrange, fresh, W.free, W.frees, rq, Bool.and_true, Bool.and_self,
  List.getElem?_cons_zero, List.getElem?_cons_succ, Option.join_some, wo_some, wo_none, List.set_cons_zero, List.set_cons_succ, List.length_cons, List.length_nil, List.map_cons, List.map_nil, List.cons_append, List.nil_append, List.replicate_succ, List.replicate_zero, Nat.reduceSub, Nat.reduceAdd, Nat.reduceLT, true_and, and_true, if_true, decide_eq_true_eq, Bool.false_eq_true, Bool.true_eq_false, if_false, ite_true, ite_false, not_true_eq_false, not_false_eq_true, Bool.not_true, Bool.not_false, Bool.not_eq_true', decide_eq_false_iff_not, Bool.not_eq_eq_eq_not, Int.cast_ofNat_Int, Int.reduceEq, Int.reduceLT, Int.reduceLE, Int.reduceNe, reduceCtorEq])
theorem size_ok {n : Nat} (h : n ≤ 1000) : n ≤ PySem.sizeLine := by rw [PySem.sizeLine_eq]; omega
section
variable {L : List Dt} {con : Nat → W} {fuel : Nat} {D : He.DefD} {ps N : List PySem.Str}
/-! ### lowest terms -/
def madeB : Sms := (.cons (.asg (.name 2) (.blt .gcd (.cons (.var 0) (.cons (.var 1) .nil)))) (.cons (.asg (.name 2) (.ite (.cmp .gt (.var 1) (.cst (.int 0))) (.var 2) (.bin .sub (.cst (.int 0)) (.var 2)))) (.cons (.ret (.tup (.cons (.bin .fdiv (.var 0) (.var 2)) (.cons (.bin .fdiv (.var 1) (.var 2)) .nil)))) .nil)))
/-- top, bottom put in lowest terms -/
def IsMade (L : List Dt) (con : Nat → W) (fuel k f : Nat) : Prop := ∀ (k' : Nat) (a b : Int), k ≤ k' → b ≠ 0 → Sz 8000 a → Sz 8000 b → Fn L con fuel k' f [.int a, .int b] (· = rq (Rat.divInt a b))
theorem made_at {f : Nat} (hq : L[f]? = some ⟨⟨2, 3, false, madeB⟩, D, ps, N⟩) : IsMade L con fuel 1 f := by
  intro k' a b hk hb sa sb
  obtain ⟨k, rfl⟩ : ∃ k, k' = k + 1 := ⟨k' - 1, by omega⟩
  refine at_def hq rfl fun M hM hf hcon hfr => ?_
  simp only [madeB]
  walk_at "rf"
  obtain ⟨g, g1, g2, g3, g4⟩ := low_terms (a := a) hb
  rw [← g2]
  have gs : Sz 8000 g := by
    unfold Sz at *
    have : b.natAbs = g.natAbs * (Rat.divInt a b).den := by
      have := congrArg Int.natAbs g4
      rw [Int.natAbs_mul] at this
      simpa using this
    have h3 : 1 ≤ (Rat.divInt a b).den := Rat.den_pos _
    have := Nat.mul_le_mul_left g.natAbs h3
    omega
  have g0 : g ≠ 0 := by omega
  by_cases h : 0 < b
  · rw [if_pos h]
    have e1 : a = g * (Rat.divInt a b).num := by rw [Int.sign_eq_one_of_pos h, Int.mul_one] at g3; exact g3
    have e2 : b = g * ((Rat.divInt a b).den : Int) := by rw [← g4]; omega
    refine ⟨gs.divOk g0 (by omega), gs.divOk g0 (by omega), size_ok (by omega), ?_⟩
    have f1 : a.fdiv g = (Rat.divInt a b).num := by conv => lhs; rw [e1]
                                                    exact fdiv_exact g0
    have f2 : b.fdiv g = ((Rat.divInt a b).den : Int) := by conv => lhs; rw [e2]
                                                            exact fdiv_exact g0
    rw [f1, f2]
  · rw [if_neg h]
    have hn : b < 0 := by omega
    have e1 : a = (0 - g) * (Rat.divInt a b).num := by rw [Int.sign_eq_neg_one_of_neg hn] at g3; rw [Int.sub_mul, Int.zero_mul]; omega
    have e2 : b = (0 - g) * ((Rat.divInt a b).den : Int) := by rw [Int.sub_mul, ← g4]; omega
    have gn : Sz 8000 (0 - g) := by rw [Int.zero_sub]; exact gs.neg
    refine ⟨gn.divOk (by omega) (by omega), gn.divOk (by omega) (by omega), size_ok (by omega), ?_⟩
    have f1 : a.fdiv (0 - g) = (Rat.divInt a b).num := by conv => lhs; rw [e1]
                                                          exact fdiv_exact (by omega)
    have f2 : b.fdiv (0 - g) = ((Rat.divInt a b).den : Int) := by conv => lhs; rw [e2]
                                                                  exact fdiv_exact (by omega)
    rw [f1, f2]
end
end Rf

namespace Rf
local macro_rules | `(tactic| walk_at "rf") => `(tactic| simp only [wp_var, wp_cst, wp_con, wp_edict, wps_nil, wps_cons, wp_tup, wp_lst, wp_bin, wp_cmp, wp_sub, wp_neg, wp_nott, wp_andd, wp_orr, wp_ite, wp_blt, wp_isi, wp_call, wp_callS, wp_callK, wp_meth, wp_thaw, wp_slc, wp_intPart, Wt,
  wrs_nil, wrs_cons, wr_asg, wr_expr, wr_ret, wr_retN, wr_if, wr_cont, wr_brk, wr_pass, wr_never, wp_name, wp_ttup, wp_tnil, wp_tcons, wp_tsub, wi_seq, wi_enum, wi_range1, wi_range2, wi_zip2, wr_for, wp_comp, wts_nil, wts_one, wp_cat, wk_free, wp_repr, wr_freeze, om_append, om_extend, lo_loc, Option.isSome_some, List.append_nil,
  ob_add, ob_sub, ob_mul, ob_fdiv, ob_mod, ob_pow, oc_lt, oc_le, oc_gt, oc_ge, oc_eqI, oc_neI, oc_isN, oc_notN, ot_bl, ot_int, ol_abs, ol_max, ol_min, ol_intI, ol_intB, ol_gcd, ol_lenT, ol_lenL, ol_lenR,
  oi_non_bool, oi_non_int, oi_non_str, oi_non_tuple, oi_non_list, oi_non_dict, oi_bl_bool, oi_bl_int, oi_bl_str, oi_bl_tuple, oi_bl_list, oi_bl_dict, oi_int_bool, oi_int_int, oi_int_str, oi_int_tuple, oi_int_list, oi_int_dict, oi_str_bool, oi_str_int, oi_str_str, oi_str_tuple, oi_str_list, oi_str_dict, oi_tup_bool, oi_tup_int, oi_tup_str, oi_tup_tuple, oi_tup_list, oi_tup_dict, oi_lst_bool, oi_lst_int, oi_lst_str, oi_lst_tuple, oi_lst_list, oi_lst_dict, oi_edict_bool, oi_edict_int, oi_edict_str, oi_edict_tuple, oi_edict_list, oi_edict_dict, os_tup, os_lst, os_ro, os_loc, oset_loc, at0, at1, at2, at3, ix_two0, ix_two1, wipeE, arrange, fresh, W.free, W.frees, rq, Bool.and_true, Bool.and_self,
  List.getElem?_cons_zero, List.getElem?_cons_succ, Option.join_some, wo_some, wo_none, List.set_cons_zero, List.set_cons_succ, List.length_cons, List.length_nil, List.map_cons, List.map_nil, List.cons_append, List.nil_append, List.replicate_succ, List.replicate_zero, Nat.reduceSub, Nat.reduceAdd, Nat.reduceLT, true_and, and_true, if_true, decide_eq_true_eq, Bool.false_eq_true, Bool.true_eq_false, if_false, ite_true, ite_false, not_true_eq_false, not_false_eq_true, Bool.not_true, Bool.not_false, Bool.not_eq_true', decide_eq_false_iff_not, Bool.not_eq_eq_eq_not, Int.cast_ofNat_Int, Int.reduceEq, Int.reduceLT, Int.reduceLE, Int.reduceNe, reduceCtorEq])
section
variable {L : List Dt} {con : Nat → W} {fuel : Nat} {D : He.DefD} {ps N : List PySem.Str}
def lawMadeB : Sms := (.cons (.asg (.tup (.cons (.name 2) (.cons (.name 3) .nil))) (.tup (.cons (.blt .abs (.cons (.var 0) .nil)) (.cons (.blt .abs (.cons (.var 1) .nil)) .nil)))) (.cons (.whl (.cmp .gt (.var 3) (.cst (.int 0))) (.cons (.asg (.tup (.cons (.name 2) (.cons (.name 3) .nil))) (.tup (.cons (.var 3) (.cons (.bin .mod (.var 2) (.var 3)) .nil)))) .nil)) (.cons (.asg (.name 4) (.ite (.cmp .lt (.var 1) (.cst (.int 0))) (.neg (.cst (.int 1))) (.cst (.int 1)))) (.cons (.ret (.tup (.cons (.bin .fdiv (.bin .mul (.var 4) (.var 0)) (.var 2)) (.cons (.bin .fdiv (.blt .abs (.cons (.var 1) .nil)) (.var 2)) .nil)))) .nil))))
theorem abs_if (a : Int) : (if a < 0 then -a else a) = (a.natAbs : Int) := by split <;> omega
theorem fmod_nat (x y : Nat) : (x : Int).fmod (y : Int) = ((x % y : Nat) : Int) := by
  rw [Int.fmod_eq_emod_of_nonneg _ (Int.natCast_nonneg y)]; rfl
theorem lawMade_at {f : Nat} (hq : L[f]? = some ⟨⟨2, 5, false, lawMadeB⟩, D, ps, N⟩) (hfu : 2 ^ 9000 < fuel) : IsMade L con fuel 1 f := by
  intro k' a b hk hb sa sb
  obtain ⟨k, rfl⟩ : ∃ k, k' = k + 1 := ⟨k' - 1, by omega⟩
  refine at_def hq rfl fun M hM hf hcon hfr => ?_
  simp only [lawMadeB]
  walk_at "rf"
  refine ⟨size_ok (by omega), ?_⟩
  rw [abs_if, abs_if, wr_whl, hf]
  obtain ⟨g, g1, g2, g3, g4⟩ := low_terms (a := a) hb
  refine wr_whlI (fun n env S => ∃ x y : Nat, env = [some (.int a), some (.int b), some (.int x), some (.int y), none] ∧ y = n ∧ (x.gcd y : Nat) = g) (fun n env S ⟨x, y, e1, e2, e3⟩ => ?_) fuel b.natAbs _ _ (Nat.lt_of_lt_of_le (Nat.lt_of_lt_of_le sb (Nat.pow_le_pow_right (by omega) (by omega))) (Nat.le_of_lt hfu)) ⟨a.natAbs, b.natAbs, rfl, rfl, by rw [g2]⟩
  subst e1 e2
  rw [wp_evT]
  walk_at "rf"
  by_cases hy : (0 : Int) < (y : Int)
  · rw [if_pos hy]
    refine ⟨by omega, size_ok (by omega), ?_⟩
    rw [fmod_nat]
    have hy' : 0 < y := by omega
    exact ⟨x % y, Nat.mod_lt _ hy', y, x % y, rfl, rfl, by rw [← e3, Nat.gcd_comm y, ← Nat.gcd_rec, Nat.gcd_comm]⟩
  · rw [if_neg hy]
    have hy' : y = 0 := by omega
    subst hy'
    rw [Nat.gcd_zero_right] at e3
    rw [e3, abs_if]
    have gs : Sz 8000 g := by
      unfold Sz at *
      have : b.natAbs = g.natAbs * (Rat.divInt a b).den := by
        have := congrArg Int.natAbs g4
        rw [Int.natAbs_mul] at this
        simpa using this
      have h3 : 1 ≤ (Rat.divInt a b).den := Rat.den_pos _
      have := Nat.mul_le_mul_left g.natAbs h3
      omega
    have g0 : g ≠ 0 := by omega
    have f2 : (b.natAbs : Int).fdiv g = ((Rat.divInt a b).den : Int) := by rw [g4]; exact fdiv_exact g0
    rw [f2]
    by_cases h : b < 0
    · rw [if_pos h]
      rw [Int.sign_eq_neg_one_of_neg h] at g3
      have f1 : (-1 * a).fdiv g = (Rat.divInt a b).num := by rw [Int.mul_comm, g3]; exact fdiv_exact g0
      rw [f1]
      exact ⟨.inl (.inl (by decide)), gs.divOk g0 (by omega), gs.divOk g0 (by omega), size_ok (by omega), rfl⟩
    · rw [if_neg h]
      rw [Int.sign_eq_one_of_pos (by omega)] at g3
      have f1 : (1 * a).fdiv g = (Rat.divInt a b).num := by rw [Int.mul_comm, g3]; exact fdiv_exact g0
      rw [f1]
      exact ⟨.inl (.inl (by decide)), gs.divOk g0 (by omega), gs.divOk g0 (by omega), size_ok (by omega), rfl⟩
/-! ### pairs, sums, products -/
def pairB : Sms := (.cons (.ret (.ite (.isi (.var 0) ["tuple"]) (.var 0) (.tup (.cons (.var 0) (.cons (.cst (.int 1)) .nil))))) .nil)
theorem pair_at {f k : Nat} {w : W} {q : Rat} (hq : L[f]? = some ⟨⟨1, 1, false, pairB⟩, D, ps, N⟩) (h : IsNum w q) : Fn L con fuel (k + 1) f [w] (· = rq q) := by
  refine at_def hq rfl fun M hM hf hcon hfr => ?_
  simp only [pairB]
  rcases h with rfl | ⟨i, rfl, rfl⟩
  · walk_at "rf"
  · walk_at "rf"
    exact ⟨size_ok (by omega), rfl⟩
def plusB (m : Nat) : Sms := (.cons (.ret (.call m (.cons (.bin .add (.bin .mul (.sub (.var 0) (.cst (.int 0))) (.sub (.var 1) (.cst (.int 1)))) (.bin .mul (.sub (.var 1) (.cst (.int 0))) (.sub (.var 0) (.cst (.int 1))))) (.cons (.bin .mul (.sub (.var 0) (.cst (.int 1))) (.sub (.var 1) (.cst (.int 1)))) .nil)))) .nil)
def minusB (m : Nat) : Sms := (.cons (.ret (.call m (.cons (.bin .sub (.bin .mul (.sub (.var 0) (.cst (.int 0))) (.sub (.var 1) (.cst (.int 1)))) (.bin .mul (.sub (.var 1) (.cst (.int 0))) (.sub (.var 0) (.cst (.int 1))))) (.cons (.bin .mul (.sub (.var 0) (.cst (.int 1))) (.sub (.var 1) (.cst (.int 1)))) .nil)))) .nil)
def timesB (m : Nat) : Sms := (.cons (.ret (.call m (.cons (.bin .mul (.sub (.var 0) (.cst (.int 0))) (.sub (.var 1) (.cst (.int 0)))) (.cons (.bin .mul (.sub (.var 0) (.cst (.int 1))) (.sub (.var 1) (.cst (.int 1)))) .nil)))) .nil)
def overB (m : Nat) : Sms := (.cons (.ret (.call m (.cons (.bin .mul (.sub (.var 0) (.cst (.int 0))) (.sub (.var 1) (.cst (.int 1)))) (.cons (.bin .mul (.sub (.var 0) (.cst (.int 1))) (.sub (.var 1) (.cst (.int 0)))) .nil)))) .nil)
theorem den_ne (q : Rat) : (q.den : Int) ≠ 0 := by have := q.den_pos; omega
theorem rz_mul {p q : Rat} {n m : Nat} (hp : Rz n p) (hq : Rz m q) : Sz (n + m) (p.num * q.num) ∧ Sz (n + m) ((p.den : Int) * q.den) ∧ Sz (n + m) (p.num * q.den) ∧ Sz (n + m) (q.num * p.den) :=
  ⟨hp.1.mul hq.1, hp.2.mul hq.2, hp.1.mul hq.2, by rw [Nat.add_comm]; exact hq.1.mul hp.2⟩
theorem add_low (p q : Rat) : Rat.divInt (p.num * q.den + q.num * p.den) ((p.den : Int) * q.den) = p + q := by
  rw [← Rat.divInt_add_divInt _ _ (den_ne p) (den_ne q), Rat.num_divInt_den, Rat.num_divInt_den]
theorem sub_low (p q : Rat) : Rat.divInt (p.num * q.den - q.num * p.den) ((p.den : Int) * q.den) = p - q := by
  rw [← Rat.divInt_sub_divInt _ _ (den_ne p) (den_ne q), Rat.num_divInt_den, Rat.num_divInt_den]
theorem mul_low (p q : Rat) : Rat.divInt (p.num * q.num) ((p.den : Int) * q.den) = p * q := by
  rw [← Rat.divInt_mul_divInt, Rat.num_divInt_den, Rat.num_divInt_den]
theorem div_low (p q : Rat) : Rat.divInt (p.num * q.den) ((p.den : Int) * q.num) = p / q := by
  rw [← Rat.divInt_mul_divInt, Rat.num_divInt_den, Rat.div_def, ← Rat.inv_divInt, Rat.num_divInt_den]
theorem plus_at {f m k n1 n2 : Nat} {p q : Rat} (hq : L[f]? = some ⟨⟨2, 2, false, plusB m⟩, D, ps, N⟩) (hm : IsMade L con fuel 1 m) (h1 : Rz n1 p) (h2 : Rz n2 q) (hn : n1 + n2 < 7000) : Fn L con fuel (k + 2) f [rq p, rq q] (· = rq (p + q)) := by
  refine at_def hq rfl fun M hM hf hcon hfr => ?_
  simp only [plusB]
  walk_at "rf"
  obtain ⟨_, s2, s3, s4⟩ := rz_mul h1 h2
  refine ⟨h1.1.mulOk h2.2 (by omega), h2.1.mulOk h1.2 (by omega), h1.2.mulOk h2.2 (by omega), ?_⟩
  have := hm (k + 1) _ _ (by omega) (Int.mul_ne_zero (den_ne p) (den_ne q)) ((s3.add s4).up (by omega)) (s2.up (by omega))
  rw [add_low] at this
  exact this.eq hM ⟨rfl, rfl⟩
theorem minus_at {f m k n1 n2 : Nat} {p q : Rat} (hq : L[f]? = some ⟨⟨2, 2, false, minusB m⟩, D, ps, N⟩) (hm : IsMade L con fuel 1 m) (h1 : Rz n1 p) (h2 : Rz n2 q) (hn : n1 + n2 < 7000) : Fn L con fuel (k + 2) f [rq p, rq q] (· = rq (p - q)) := by
  refine at_def hq rfl fun M hM hf hcon hfr => ?_
  simp only [minusB]
  walk_at "rf"
  obtain ⟨_, s2, s3, s4⟩ := rz_mul h1 h2
  refine ⟨h1.1.mulOk h2.2 (by omega), h2.1.mulOk h1.2 (by omega), h1.2.mulOk h2.2 (by omega), ?_⟩
  have := hm (k + 1) _ _ (by omega) (Int.mul_ne_zero (den_ne p) (den_ne q)) ((s3.sub s4).up (by omega)) (s2.up (by omega))
  rw [sub_low] at this
  exact this.eq hM ⟨rfl, rfl⟩
theorem times_at {f m k n1 n2 : Nat} {p q : Rat} (hq : L[f]? = some ⟨⟨2, 2, false, timesB m⟩, D, ps, N⟩) (hm : IsMade L con fuel 1 m) (h1 : Rz n1 p) (h2 : Rz n2 q) (hn : n1 + n2 < 7000) : Fn L con fuel (k + 2) f [rq p, rq q] (· = rq (p * q)) := by
  refine at_def hq rfl fun M hM hf hcon hfr => ?_
  simp only [timesB]
  walk_at "rf"
  obtain ⟨s1, s2, _, _⟩ := rz_mul h1 h2
  refine ⟨h1.1.mulOk h2.1 (by omega), h1.2.mulOk h2.2 (by omega), ?_⟩
  have := hm (k + 1) _ _ (by omega) (Int.mul_ne_zero (den_ne p) (den_ne q)) (s1.up (by omega)) (s2.up (by omega))
  rw [mul_low] at this
  exact this.eq hM ⟨rfl, rfl⟩
theorem over_at {f m k n1 n2 : Nat} {p q : Rat} (hq : L[f]? = some ⟨⟨2, 2, false, overB m⟩, D, ps, N⟩) (hm : IsMade L con fuel 1 m) (h1 : Rz n1 p) (h2 : Rz n2 q) (hn : n1 + n2 < 7000) (h0 : q ≠ 0) : Fn L con fuel (k + 2) f [rq p, rq q] (· = rq (p / q)) := by
  refine at_def hq rfl fun M hM hf hcon hfr => ?_
  simp only [overB]
  walk_at "rf"
  have hn0 : q.num ≠ 0 := fun z => h0 (Rat.num_eq_zero.mp z)
  refine ⟨h1.1.mulOk h2.2 (by omega), h1.2.mulOk h2.1 (by omega), ?_⟩
  have := hm (k + 1) _ _ (by omega) (Int.mul_ne_zero (den_ne p) hn0) ((h1.1.mul h2.2).up (by omega)) ((h1.2.mul h2.1).up (by omega))
  rw [div_low] at this
  exact this.eq hM ⟨rfl, rfl⟩
/-- -1, 0, 1 -/
def cmpR (p q : Rat) : Int := (if q < p then 1 else 0) - (if p < q then 1 else 0)
def compB : Sms := (.cons (.asg (.tup (.cons (.name 2) (.cons (.name 3) .nil))) (.tup (.cons (.bin .mul (.sub (.var 0) (.cst (.int 0))) (.sub (.var 1) (.cst (.int 1)))) (.cons (.bin .mul (.sub (.var 1) (.cst (.int 0))) (.sub (.var 0) (.cst (.int 1)))) .nil)))) (.cons (.ret (.bin .sub (.blt .int (.cons (.cmp .gt (.var 2) (.var 3)) .nil)) (.blt .int (.cons (.cmp .lt (.var 2) (.var 3)) .nil)))) .nil))
theorem comp_at {f k n1 n2 : Nat} {p q : Rat} (hq : L[f]? = some ⟨⟨2, 4, false, compB⟩, D, ps, N⟩) (h1 : Rz n1 p) (h2 : Rz n2 q) (hn : n1 + n2 < 7000) : Fn L con fuel (k + 1) f [rq p, rq q] (· = .int (cmpR p q)) := by
  refine at_def hq rfl fun M hM hf hcon hfr => ?_
  simp only [compB]
  walk_at "rf"
  refine ⟨h1.1.mulOk h2.2 (by omega), h2.1.mulOk h1.2 (by omega), size_ok (by omega), ?_⟩
  unfold cmpR
  simp only [Rat.lt_iff]
def lessB : Sms := (.cons (.ret (.cmp .lt (.bin .mul (.sub (.var 0) (.cst (.int 0))) (.sub (.var 1) (.cst (.int 1)))) (.bin .mul (.sub (.var 1) (.cst (.int 0))) (.sub (.var 0) (.cst (.int 1)))))) .nil)
theorem less_at {f k n1 n2 : Nat} {p q : Rat} (hq : L[f]? = some ⟨⟨2, 2, false, lessB⟩, D, ps, N⟩) (h1 : Rz n1 p) (h2 : Rz n2 q) (hn : n1 + n2 < 7000) : Fn L con fuel (k + 1) f [rq p, rq q] (· = .bl (decide (p < q))) := by
  refine at_def hq rfl fun M hM hf hcon hfr => ?_
  simp only [lessB]
  walk_at "rf"
  refine ⟨h1.1.mulOk h2.2 (by omega), h2.1.mulOk h1.2 (by omega), ?_⟩
  simp only [Rat.lt_iff]
end
def dn_Ev3c : List Lean.Name := []
def up_Ev3c : List Lean.Name := [`add_low, `sub_low, `mul_low, `div_low]
end Rf

namespace Rf
local macro_rules | `(tactic| walk_at "rf") => `(tactic| simp only [wp_var, wp_cst, wp_con, wp_edict, wps_nil, wps_cons, wp_tup, wp_lst, wp_bin, wp_cmp, wp_sub, wp_neg, wp_nott, wp_andd, wp_orr, wp_ite, wp_blt, wp_isi, wp_call, wp_callS, wp_callK, wp_meth, wp_thaw, wp_slc, wp_intPart, Wt,
  wrs_nil, wrs_cons, wr_asg, wr_expr, wr_ret, wr_retN, wr_if, wr_cont, wr_brk, wr_pass, wr_never, wp_name, wp_ttup, wp_tnil, wp_tcons, wp_tsub, wi_seq, wi_enum, wi_range1, wi_range2, wi_zip2, wr_for, wp_comp, wts_nil, wts_one, wp_cat, wk_free, wp_repr, wr_freeze, om_append, om_extend, lo_loc, Option.isSome_some, List.append_nil,
  ob_add, ob_sub, ob_mul, ob_fdiv, ob_mod, ob_pow, oc_lt, oc_le, oc_gt, oc_ge, oc_eqI, oc_neI, oc_isN, oc_notN, ot_bl, ot_int, ol_abs, ol_max, ol_min, ol_intI, ol_intB, ol_gcd, ol_lenT, ol_lenL, ol_lenR,
  oi_non_bool, oi_non_int, oi_non_str, oi_non_tuple, oi_non_list, oi_non_dict, oi_bl_bool, oi_bl_int, oi_bl_str, oi_bl_tuple, oi_bl_list, oi_bl_dict, oi_int_bool, oi_int_int, oi_int_str, oi_int_tuple, oi_int_list, oi_int_dict, oi_str_bool, oi_str_int, oi_str_str, oi_str_tuple, oi_str_list, oi_str_dict, oi_tup_bool, oi_tup_int, oi_tup_str, oi_tup_tuple, oi_tup_list, oi_tup_dict, oi_lst_bool, oi_lst_int, oi_lst_str, oi_lst_tuple, oi_lst_list, oi_lst_dict, oi_edict_bool, oi_edict_int, oi_edict_str, oi_edict_tuple, oi_edict_list, oi_edict_dict, os_tup, os_lst, os_ro, os_loc, oset_loc, at0, at1, at2, at3, ix_two0, ix_two1, wipeE, arrange, fresh, W.free, W.frees, rq, Bool.and_true, Bool.and_self,
  List.getElem?_cons_zero, List.getElem?_cons_succ, Option.join_some, wo_some, wo_none, List.set_cons_zero, List.set_cons_succ, List.length_cons, List.length_nil, List.map_cons, List.map_nil, List.cons_append, List.nil_append, List.replicate_succ, List.replicate_zero, Nat.reduceSub, Nat.reduceAdd, Nat.reduceLT, true_and, and_true, if_true, decide_eq_true_eq, Bool.false_eq_true, Bool.true_eq_false, if_false, ite_true, ite_false, not_true_eq_false, not_false_eq_true, Bool.not_true, Bool.not_false, Bool.not_eq_true', decide_eq_false_iff_not, Bool.not_eq_eq_eq_not, Int.cast_ofNat_Int, Int.reduceEq, Int.reduceLT, Int.reduceLE, Int.reduceNe, reduceCtorEq])
section
variable {L : List Dt} {con : Nat → W} {fuel : Nat} {D : He.DefD} {ps N : List PySem.Str}
/-! ### what is a number -/
def isIntB : Sms := (.cons (.ret (.andd (.isi (.var 0) ["int"]) (.nott (.isi (.var 0) ["bool"])))) .nil)
theorem isInt_int {f k : Nat} {i : Int} (hq : L[f]? = some ⟨⟨1, 1, false, isIntB⟩, D, ps, N⟩) : Fn L con fuel (k + 1) f [.int i] (· = .bl true) := by
  refine at_def hq rfl fun M hM hf hcon hfr => ?_
  simp only [isIntB]
  walk_at "rf"
theorem isInt_rq {f k : Nat} {q : Rat} (hq : L[f]? = some ⟨⟨1, 1, false, isIntB⟩, D, ps, N⟩) : Fn L con fuel (k + 1) f [rq q] (· = .bl false) := by
  refine at_def hq rfl fun M hM hf hcon hfr => ?_
  simp only [isIntB]
  walk_at "rf"
def isRatB (ii : Nat) : Sms := (.cons (.iff (.orr (.nott (.isi (.var 0) ["tuple"])) (.orr (.cmp .ne (.blt .len (.cons (.var 0) .nil)) (.cst (.int 2))) (.orr (.nott (.call ii (.cons (.sub (.var 0) (.cst (.int 0))) .nil))) (.nott (.call ii (.cons (.sub (.var 0) (.cst (.int 1))) .nil)))))) (.cons (.ret (.cst (.bl false))) .nil) .nil) (.cons (.ret (.andd (.cmp .gt (.sub (.var 0) (.cst (.int 1))) (.cst (.int 0))) (.cmp .eq (.blt .gcd (.cons (.sub (.var 0) (.cst (.int 0))) (.cons (.sub (.var 0) (.cst (.int 1))) .nil))) (.cst (.int 1))))) .nil))
theorem isRat_rq {f k ii : Nat} {q : Rat} {D' : He.DefD} {ps' N' : List PySem.Str} (hq : L[f]? = some ⟨⟨1, 1, false, isRatB ii⟩, D, ps, N⟩) (hi : L[ii]? = some ⟨⟨1, 1, false, isIntB⟩, D', ps', N'⟩) : Fn L con fuel (k + 2) f [rq q] (· = .bl true) := by
  refine at_def hq rfl fun M hM hf hcon hfr => ?_
  simp only [isRatB]
  walk_at "rf"
  refine (isInt_int hi).eq hM ?_
  walk_at "rf"
  refine (isInt_int hi).eq hM ?_
  walk_at "rf"
  have h1 : (0 : Int) < (q.den : Int) := by have := q.den_pos; omega
  rw [if_pos h1]
  have h2 : q.num.natAbs.gcd ((q.den : Int)).natAbs = 1 := q.reduced
  rw [h2]
  rfl
def isNumB (ii ir : Nat) : Sms := (.cons (.ret (.orr (.call ii (.cons (.var 0) .nil)) (.call ir (.cons (.var 0) .nil)))) .nil)
theorem isNum_at {f k ii ir : Nat} {w : W} {q : Rat} {D1 D2 : He.DefD} {p1 n1 p2 n2 : List PySem.Str} (hq : L[f]? = some ⟨⟨1, 1, false, isNumB ii ir⟩, D, ps, N⟩) (hi : L[ii]? = some ⟨⟨1, 1, false, isIntB⟩, D1, p1, n1⟩) (hr : L[ir]? = some ⟨⟨1, 1, false, isRatB ii⟩, D2, p2, n2⟩) (h : IsNum w q) : Fn L con fuel (k + 3) f [w] (· = .bl true) := by
  refine at_def hq rfl fun M hM hf hcon hfr => ?_
  simp only [isNumB]
  rcases h with rfl | ⟨i, rfl, rfl⟩
  · walk_at "rf"
    refine (isInt_rq (q := q) (k := k + 1) hi).eq hM ?_
    walk_at "rf"
    exact (isRat_rq (q := q) (k := k) hr hi).eq hM ⟨rfl, rfl⟩
  · walk_at "rf"
    refine (isInt_int (k := k + 1) hi).eq hM ?_
    walk_at "rf"
def checkB (i : Nat) : Sms := (.cons (.iff (.nott (.call i (.cons (.var 0) .nil))) (.cons .never .nil) .nil) .nil)
theorem check_at {f k i : Nat} {w : W} (hq : L[f]? = some ⟨⟨1, 1, false, checkB i⟩, D, ps, N⟩) (hf : w.free = true) (h : Fn L con fuel k i [w] (· = .bl true)) : Fn L con fuel (k + 1) f [w] (· = .non) := by
  refine at_def hq rfl fun M hM hf' hcon hfr => ?_
  simp only [checkB]
  walk_at "rf"
  refine h.wk hM (fr1 hf) ?_
  walk_at "rf"
def bothB (c : Nat) : Sms := (.cons (.expr (.call c (.cons (.var 0) .nil))) (.cons (.expr (.call c (.cons (.var 1) .nil))) .nil))
theorem both_at {f k c : Nat} {w u : W} (hq : L[f]? = some ⟨⟨2, 2, false, bothB c⟩, D, ps, N⟩) (hw : w.free = true) (hu : u.free = true) (h : Fn L con fuel k c [w] (· = .non)) (h' : Fn L con fuel k c [u] (· = .non)) : Fn L con fuel (k + 1) f [w, u] (· = .non) := by
  refine at_def hq rfl fun M hM hf hcon hfr => ?_
  simp only [bothB]
  walk_at "rf"
  exact h.wk hM (fr1 hw) (h'.wk hM (fr1 hu) trivial)
theorem IsNum.free {w : W} {q : Rat} (h : IsNum w q) : w.free = true := by rcases h with rfl | ⟨i, rfl, _⟩ <;> rfl
/-- what the doors of the numbers lean on: is_integer, is_ratio, is_number, check_number, check_both, pair_of -/
structure Doors (L : List Dt) (ii ir im ic ib ip : Nat) : Prop where
  hii : ∃ D ps N, L[ii]? = some ⟨⟨1, 1, false, isIntB⟩, D, ps, N⟩
  hir : ∃ D ps N, L[ir]? = some ⟨⟨1, 1, false, isRatB ii⟩, D, ps, N⟩
  him : ∃ D ps N, L[im]? = some ⟨⟨1, 1, false, isNumB ii ir⟩, D, ps, N⟩
  hic : ∃ D ps N, L[ic]? = some ⟨⟨1, 1, false, checkB im⟩, D, ps, N⟩
  hib : ∃ D ps N, L[ib]? = some ⟨⟨2, 2, false, bothB ic⟩, D, ps, N⟩
  hip : ∃ D ps N, L[ip]? = some ⟨⟨1, 1, false, pairB⟩, D, ps, N⟩
theorem Doors.num {ii ir im ic ib ip k : Nat} (d : Doors L ii ir im ic ib ip) {w : W} {q : Rat} (h : IsNum w q) : Fn L con fuel (k + 3) im [w] (· = .bl true) := by
  obtain ⟨_, _, _, h1⟩ := d.hii; obtain ⟨_, _, _, h2⟩ := d.hir; obtain ⟨_, _, _, h3⟩ := d.him
  exact isNum_at h3 h1 h2 h
theorem Doors.check {ii ir im ic ib ip k : Nat} (d : Doors L ii ir im ic ib ip) {w : W} {q : Rat} (h : IsNum w q) : Fn L con fuel (k + 4) ic [w] (· = .non) := by
  obtain ⟨_, _, _, h4⟩ := d.hic
  exact check_at h4 h.free (d.num h)
theorem Doors.both {ii ir im ic ib ip k : Nat} (d : Doors L ii ir im ic ib ip) {w u : W} {p q : Rat} (h : IsNum w p) (h' : IsNum u q) : Fn L con fuel (k + 5) ib [w, u] (· = .non) := by
  obtain ⟨_, _, _, h5⟩ := d.hib
  exact both_at h5 h.free h'.free (d.check h) (d.check h')
theorem Doors.pair {ii ir im ic ib ip k : Nat} (d : Doors L ii ir im ic ib ip) {w : W} {q : Rat} (h : IsNum w q) : Fn L con fuel (k + 1) ip [w] (· = rq q) := by
  obtain ⟨_, _, _, h6⟩ := d.hip
  exact pair_at h6 h
/-- the public two-place functions: both checked, then the inner one of the pairs -/
def doorB (b p o : Nat) : Sms := (.cons (.expr (.call b (.cons (.var 0) (.cons (.var 1) .nil)))) (.cons (.ret (.call o (.cons (.call p (.cons (.var 0) .nil)) (.cons (.call p (.cons (.var 1) .nil)) .nil)))) .nil))
theorem door_at {ii ir im ic ib ip k f o : Nat} {w u v : W} {p q : Rat} (d : Doors L ii ir im ic ib ip) (hq : L[f]? = some ⟨⟨2, 2, false, doorB ib ip o⟩, D, ps, N⟩) (h : IsNum w p) (h' : IsNum u q) (hv : v.free = true) (ho : ∀ k, Fn L con fuel (k + 2) o [rq p, rq q] (· = v)) : Fn L con fuel (k + 6) f [w, u] (· = v) := by
  refine at_def hq rfl fun M hM hf hcon hfr => ?_
  simp only [doorB]
  walk_at "rf"
  refine (d.both (k := k) h h').wk hM (fr2 h.free h'.free) ?_
  refine (d.pair (k := k + 4) h).wk hM (fr1 h.free) ((d.pair (k := k + 4) h').wk hM (fr1 h'.free) ?_)
  exact (ho (k + 3)).wk hM rfl ⟨hv, rfl⟩
def overDoorB (b p o : Nat) : Sms := (.cons (.expr (.call b (.cons (.var 0) (.cons (.var 1) .nil)))) (.cons (.iff (.cmp .eq (.sub (.call p (.cons (.var 1) .nil)) (.cst (.int 0))) (.cst (.int 0))) (.cons .never .nil) .nil) (.cons (.ret (.call o (.cons (.call p (.cons (.var 0) .nil)) (.cons (.call p (.cons (.var 1) .nil)) .nil)))) .nil)))
theorem overDoor_at {ii ir im ic ib ip k f o : Nat} {w u v : W} {p q : Rat} (d : Doors L ii ir im ic ib ip) (hq : L[f]? = some ⟨⟨2, 2, false, overDoorB ib ip o⟩, D, ps, N⟩) (h : IsNum w p) (h' : IsNum u q) (h0 : q ≠ 0) (hv : v.free = true) (ho : ∀ k, Fn L con fuel (k + 2) o [rq p, rq q] (· = v)) : Fn L con fuel (k + 6) f [w, u] (· = v) := by
  refine at_def hq rfl fun M hM hf hcon hfr => ?_
  simp only [overDoorB]
  walk_at "rf"
  refine (d.both (k := k) h h').wk hM (fr2 h.free h'.free) ?_
  refine (d.pair (k := k + 4) h').wk hM (fr1 h'.free) ?_
  walk_at "rf"
  have hn0 : ¬ q.num = 0 := fun z => h0 (Rat.num_eq_zero.mp z)
  rw [if_neg hn0]
  refine (d.pair (k := k + 4) h).wk hM (fr1 h.free) ((d.pair (k := k + 4) h').wk hM (fr1 h'.free) ?_)
  exact (ho (k + 3)).wk hM rfl ⟨hv, rfl⟩
end
end Rf

namespace Rf
local macro_rules | `(tactic| walk_at "rf") => `(tactic| simp only [wp_var, wp_cst, wp_con, wp_edict, wps_nil, wps_cons, wp_tup, wp_lst, wp_bin, wp_cmp, wp_sub, wp_neg, wp_nott, wp_andd, wp_orr, wp_ite, wp_blt, wp_isi, wp_call, wp_callS, wp_callK, wp_meth, wp_thaw, wp_slc, wp_intPart, Wt,
  wrs_nil, wrs_cons, wr_asg, wr_expr, wr_ret, wr_retN, wr_if, wr_cont, wr_brk, wr_pass, wr_never, wp_name, wp_ttup, wp_tnil, wp_tcons, wp_tsub, wi_seq, wi_enum, wi_range1, wi_range2, wi_zip2, wr_for, wp_comp, wts_nil, wts_one, wp_cat, wk_free, wp_repr, wr_freeze, om_append, om_extend, lo_loc, Option.isSome_some, List.append_nil,
  ob_add, ob_sub, ob_mul, ob_fdiv, ob_mod, ob_pow, oc_lt, oc_le, oc_gt, oc_ge, oc_eqI, oc_neI, oc_isN, oc_notN, ot_bl, ot_int, ol_abs, ol_max, ol_min, ol_intI, ol_intB, ol_gcd, ol_lenT, ol_lenL, ol_lenR,
  oi_non_bool, oi_non_int, oi_non_str, oi_non_tuple, oi_non_list, oi_non_dict, oi_bl_bool, oi_bl_int, oi_bl_str, oi_bl_tuple, oi_bl_list, oi_bl_dict, oi_int_bool, oi_int_int, oi_int_str, oi_int_tuple, oi_int_list, oi_int_dict, oi_str_bool, oi_str_int, oi_str_str, oi_str_tuple, oi_str_list, oi_str_dict, oi_tup_bool, oi_tup_int, oi_tup_str, oi_tup_tuple, oi_tup_list, oi_tup_dict, oi_lst_bool, oi_lst_int, oi_lst_str, oi_lst_tuple, oi_lst_list, oi_lst_dict, oi_edict_bool, oi_edict_int, oi_edict_str, oi_edict_tuple, oi_edict_list, oi_edict_dict, os_tup, os_lst, os_ro, os_loc, oset_loc, at0, at1, at2, at3, ix_two0, ix_two1, wipeE, arrange, fresh, W.free, W.frees, rq, Bool.and_true, Bool.and_self,
  List.getElem?_cons_zero, List.getElem?_cons_succ, Option.join_some, wo_some, wo_none, List.set_cons_zero, List.set_cons_succ, List.length_cons, List.length_nil, List.map_cons, List.map_nil, List.cons_append, List.nil_append, List.replicate_succ, List.replicate_zero, Nat.reduceSub, Nat.reduceAdd, Nat.reduceLT, true_and, and_true, if_true, decide_eq_true_eq, Bool.false_eq_true, Bool.true_eq_false, if_false, ite_true, ite_false, not_true_eq_false, not_false_eq_true, Bool.not_true, Bool.not_false, Bool.not_eq_true', decide_eq_false_iff_not, Bool.not_eq_eq_eq_not, Int.cast_ofNat_Int, Int.reduceEq, Int.reduceLT, Int.reduceLE, Int.reduceNe, reduceCtorEq])
section
variable {L : List Dt} {con : Nat → W} {fuel : Nat} {D : He.DefD} {ps N : List PySem.Str}
/-! ### _law_same -/
inductive Dat : Nat → W → Prop
  | non {n : Nat} : Dat n .non
  | bl {n : Nat} (b : Bool) : Dat n (.bl b)
  | int {n : Nat} (i : Int) : Dat n (.int i)
  | str {n : Nat} (x : PySem.Str) : Dat n (.str x)
  | tup {n : Nat} {xs : List W} : xs.length ≤ 1000000 → (∀ x ∈ xs, Dat n x) → Dat (n + 1) (.tup xs)
  | lst {n : Nat} {xs : List W} : xs.length ≤ 1000000 → (∀ x ∈ xs, Dat n x) → Dat (n + 1) (.lst xs)
theorem oc_eqB {S : Store} {b c : Bool} {Q : W → Prop} : Wo (cmpW S .eq (.bl b) (.bl c)) Q = Q (.bl (b == c)) := by
  show Wo ((W.same (.bl b) (.bl c)).map W.bl) Q = _
  have : W.same (.bl b) (.bl c) = some (b == c) := rfl
  rw [this]; rfl
theorem oc_eqS {S : Store} {b c : PySem.Str} {Q : W → Prop} : Wo (cmpW S .eq (.str b) (.str c)) Q = Q (.bl (b == c)) := by
  show Wo ((W.same (.str b) (.str c)).map W.bl) Q = _
  have : W.same (.str b) (.str c) = some (b == c) := rfl
  rw [this]; rfl
theorem Dat.free : ∀ {n : Nat} {w : W}, Dat n w → w.free = true
  | _, _, .non => rfl
  | _, _, .bl _ => rfl
  | _, _, .int _ => rfl
  | _, _, .str _ => rfl
  | _, _, @Dat.tup n xs _ h => by
    show W.frees xs = true
    have : ∀ l : List W, (∀ x ∈ l, x.free = true) → W.frees l = true := fun l => by
      induction l with
      | nil => intro _; rfl
      | cons a l ih => intro h; show (a.free && W.frees l) = true; rw [h a List.mem_cons_self, ih fun x hx => h x (List.mem_cons_of_mem _ hx)]; rfl
    exact this xs fun x hx => (h x hx).free
  | _, _, @Dat.lst n xs _ h => by
    show W.frees xs = true
    have : ∀ l : List W, (∀ x ∈ l, x.free = true) → W.frees l = true := fun l => by
      induction l with
      | nil => intro _; rfl
      | cons a l ih => intro h; show (a.free && W.frees l) = true; rw [h a List.mem_cons_self, ih fun x hx => h x (List.mem_cons_of_mem _ hx)]; rfl
    exact this xs fun x hx => (h x hx).free
theorem bools_true : ∀ {l : List W}, (∀ x ∈ l, x = .bl true) → boolsOf l = some (List.replicate l.length true)
  | [], _ => rfl
  | a :: l, h => by
    rw [h a List.mem_cons_self]
    show (boolsOf l).map (true :: ·) = _
    rw [bools_true fun x hx => h x (List.mem_cons_of_mem _ hx)]; rfl
theorem ol_allT {S : Store} {l : List W} {Q : W → Prop} (h : ∀ x ∈ l, x = .bl true) (q : Q (.bl true)) : Wo (bltW S .all [.lst l]) Q := by
  show Wo ((boolsOf l).map fun bs => W.bl (bs.all id)) Q
  rw [bools_true h]
  show Q (.bl ((List.replicate l.length true).all id))
  rw [show (List.replicate l.length true).all id = true from by rw [List.all_eq_true]; intro x hx; exact (List.mem_replicate.mp hx).2]
  exact q
theorem zip_self {xs : List W} : ∀ y ∈ zip2W xs xs, ∃ x ∈ xs, y = .tup [x, x] := by
  intro y hy
  obtain ⟨i, hi⟩ := List.mem_iff_getElem?.mp hy
  obtain ⟨a, b, h1, h2, rfl⟩ := zip2W_get hi
  rw [h1] at h2
  cases h2
  exact ⟨a, List.mem_of_getElem? h1, rfl⟩
def seqSameB (s : Nat) (t : String) : Sms := (.cons (.iff (.orr (.nott (.isi (.var 0) [t])) (.cmp .ne (.blt .len (.cons (.var 0) .nil)) (.blt .len (.cons (.var 1) .nil)))) (.cons (.ret (.cst (.bl false))) .nil) .nil) (.cons (.ret (.blt .all (.cons (.comp (.call s (.cons (.var 2) (.cons (.var 3) .nil))) (.tup (.cons (.name 2) (.cons (.name 3) .nil))) (.zip2 (.var 0) (.var 1)) .nil [2, 3]) .nil))) .nil))
def sameB (s : Nat) : Sms := (.cons (.iff (.cmp .isN (.var 1) (.cst .non)) (.cons (.ret (.cmp .isN (.var 0) (.cst .non))) .nil) .nil) (.cons (.iff (.isi (.var 1) ["bool"]) (.cons (.ret (.andd (.isi (.var 0) ["bool"]) (.cmp .eq (.var 0) (.var 1)))) .nil) .nil) (.cons (.iff (.isi (.var 1) ["str"]) (.cons (.ret (.andd (.isi (.var 0) ["str"]) (.cmp .eq (.var 0) (.var 1)))) .nil) .nil) (.cons (.iff (.isi (.var 1) ["int"]) (.cons (.ret (.andd (.isi (.var 0) ["int"]) (.andd (.nott (.isi (.var 0) ["bool"])) (.cmp .eq (.var 0) (.var 1))))) .nil) .nil) (.cons (.iff (.isi (.var 1) ["tuple"]) (seqSameB s "tuple") .nil) (.cons (.iff (.isi (.var 1) ["list"]) (seqSameB s "list") .nil) (.cons (.ret (.cmp .eq (.var 0) (.var 1))) .nil)))))))
theorem same_loop {f k n : Nat} {M : Sem} {xs : List W} {env : Env} {S : Store} {Q : List W → Store → Prop} (hM : ∀ f ds S Q, At L con fuel k f ds S Q → Wc M f ds S Q) (ih : ∀ x ∈ xs, Dat n x ∧ Fn L con fuel k f [x, x] (· = .bl true)) (hl : xs.length ≤ 1000000) (he : env.length = 4)
    (q : ∀ ys S', (∀ y ∈ ys, y = W.bl true) → S' = S → Q ys S') : Wg M (.call f (.cons (.var 2) (.cons (.var 3) .nil))) (.tup (.cons (.name 2) (.cons (.name 3) .nil))) .nil [2, 3] env (zip2W xs xs) [] S Q := by
  obtain ⟨a, b, c, d, rfl⟩ : ∃ a b c d, env = [a, b, c, d] := by
    match env, he with
    | [a, b, c, d], _ => exact ⟨a, b, c, d, rfl⟩
  refine wg_I (I := fun rest acc S' => (∀ y ∈ rest, ∃ x ∈ xs, y = .tup [x, x]) ∧ (∀ y ∈ acc, y = .bl true) ∧ acc.length + rest.length ≤ 1000000 ∧ S' = S) (fun y rest acc S' ⟨h1, h2, h3, h4⟩ => ?_) (fun acc S' ⟨_, h2, _, h4⟩ => q acc S' h2 h4) _ _ _ ⟨zip_self, fun _ h => (by cases h), by rw [zip2W_len]; simp only [List.length_nil]; omega, rfl⟩
  obtain ⟨x, hx, rfl⟩ := h1 y List.mem_cons_self
  obtain ⟨d1, d2⟩ := ih x hx
  walk_at "rf"
  refine d2.wk hM (fr2 d1.free d1.free) ?_
  rw [List.length_cons] at h3
  refine ⟨by rw [PySem.sizeLine_eq]; omega, fun y hy => h1 y (List.mem_cons_of_mem _ hy), fun y hy => ?_, by rw [List.length_append]; simp only [List.length_cons, List.length_nil]; omega, h4⟩
  rcases List.mem_append.mp hy with h | h
  · exact h2 y h
  · exact List.mem_singleton.mp h
theorem same_at {f : Nat} (hq : L[f]? = some ⟨⟨2, 4, false, sameB f⟩, D, ps, N⟩) : ∀ (n k : Nat) (w : W), Dat n w → Fn L con fuel (k + n + 1) f [w, w] (· = .bl true) := by
  intro n
  induction n with
  | zero =>
    intro k w hw
    refine at_def hq rfl fun M hM hf hcon hfr => ?_
    simp only [sameB, seqSameB]
    cases hw with
    | non => walk_at "rf"
    | bl b => walk_at "rf"; simp [oc_eqB]; rfl
    | int i => walk_at "rf"; simp
    | str x => walk_at "rf"; simp [oc_eqS]; rfl
  | succ n ih =>
    intro k w hw
    refine at_def hq rfl fun M hM hf hcon hfr => ?_
    simp only [sameB, seqSameB]
    cases hw with
    | non => walk_at "rf"
    | bl b => walk_at "rf"; simp [oc_eqB]; rfl
    | int i => walk_at "rf"; simp
    | str x => walk_at "rf"; simp [oc_eqS]; rfl
    | tup hl hx =>
      walk_at "rf"
      exact same_loop hM (fun x hx' => ⟨hx x hx', ih k x (hx x hx')⟩) hl rfl fun ys S' h1 h2 => ol_allT h1 ⟨rfl, rfl⟩
    | lst hl hx =>
      walk_at "rf"
      exact same_loop hM (fun x hx' => ⟨hx x hx', ih k x (hx x hx')⟩) hl rfl fun ys S' h1 h2 => ol_allT h1 ⟨rfl, rfl⟩
/-! ### draws -/
/-- the cell n is a pot -/
def Pot (n : Nat) (S : Store) : Prop := ∃ p0 p1 : Int, (S[n]?).join = some [.int p0, .int p1] ∧ 0 ≤ p0 ∧ 0 ≤ p1 ∧ p1 < 2 ^ 40
theorem Pot.set {n : Nat} {S : Store} {p0 p1 : Int} (h : ∃ l, (S[n]?).join = some l) (h0 : 0 ≤ p0) (h1 : 0 ≤ p1) (h2 : p1 < 2 ^ 40) : Pot n (S.set n (some [.int p0, .int p1])) := by
  obtain ⟨l, h⟩ := h
  have hn : n < S.length := by
    cases e : S[n]? with
    | none => rw [e] at h; cases h
    | some _ => exact (List.getElem?_eq_some_iff.mp e).1
  exact ⟨p0, p1, by rw [List.getElem?_set_self hn]; rfl, h0, h1, h2⟩
/-- but for the cell n the store stays -/
def Fr (n : Nat) (S S' : Store) : Prop := S'.length = S.length ∧ ∀ m, m ≠ n → S'[m]? = S[m]?
theorem Fr.refl (n : Nat) (S : Store) : Fr n S S := ⟨rfl, fun _ _ => rfl⟩
theorem Fr.trans {n : Nat} {S S1 S2 : Store} (h : Fr n S S1) (h' : Fr n S1 S2) : Fr n S S2 := ⟨h'.1.trans h.1, fun m hm => (h'.2 m hm).trans (h.2 m hm)⟩
theorem Fr.set {n : Nat} {S : Store} {x : Option (List W)} : Fr n S (S.set n x) := ⟨List.length_set .., fun m hm => List.getElem?_set_ne (Ne.symm hm)⟩
theorem get_set {n : Nat} {S : Store} {l l' : List W} (h : (S[n]?).join = some l) : ((S.set n (some l'))[n]?).join = some l' := by
  have hn : n < S.length := by
    cases e : S[n]? with
    | none => rw [e] at h; cases h
    | some _ => exact (List.getElem?_eq_some_iff.mp e).1
  rw [List.getElem?_set_self hn]; rfl
def drawB (a b m c d : Int) : Sms := (.cons (.iff (.cmp .gt (.sub (.var 0) (.cst (.int 0))) (.cst (.int 0))) (.cons (.asg (.name 2) (.bin .mod (.blt .int (.cons (.sub (.var 0) (.cst (.int 0))) .nil)) (.var 1))) (.cons (.asg (.sub (.var 0) (.cst (.int 0))) (.bin .fdiv (.blt .int (.cons (.sub (.var 0) (.cst (.int 0))) .nil)) (.var 1))) (.cons (.ret (.var 2)) .nil))) .nil) (.cons (.asg (.sub (.var 0) (.cst (.int 1))) (.bin .mod (.blt .int (.cons (.bin .add (.bin .mul (.sub (.var 0) (.cst (.int 1))) (.cst (.int a))) (.cst (.int b))) .nil)) (.cst (.int m)))) (.cons (.ret (.bin .mod (.blt .int (.cons (.bin .fdiv (.bin .mod (.blt .int (.cons (.bin .mul (.sub (.var 0) (.cst (.int 1))) (.sub (.var 0) (.cst (.int 1)))) .nil)) (.cst (.int c))) (.cst (.int d))) .nil)) (.var 1))) .nil)))
theorem draw_at {f k n : Nat} {S : Store} {a b m c d many : Int} (hq : L[f]? = some ⟨⟨2, 3, false, drawB a b m c d⟩, D, ps, N⟩) (hp : Pot n S) (hm : 0 < many) (hm2 : many < 2 ^ 64) (ha : a.natAbs < 2 ^ 64) (hmm : 0 < m ∧ m < 2 ^ 40) (hc : c ≠ 0) (hd : 0 < d ∧ d < 2 ^ 30) :
    At L con fuel (k + 1) f [.loc n, .int many] S fun w S' => ∃ x, w = .int x ∧ 0 ≤ x ∧ x < many ∧ Pot n S' ∧ Fr n S S' := by
  refine at_def hq rfl fun M hM hf hcon hfr => ?_
  obtain ⟨p0, p1, hs, h0, h1, h2⟩ := hp
  simp only [drawB]
  walk_at "rf"
  simp only [hs]
  walk_at "rf"
  by_cases h : 0 < p0
  · rw [if_pos h]
    have sm : Sz 64 many := by unfold Sz; omega
    exact ⟨by omega, sm.divOk (by omega) (by omega), _, rfl, Int.fmod_nonneg_of_pos _ hm, Int.fmod_lt_of_pos _ hm, .set ⟨_, hs⟩ (Int.fdiv_nonneg h0 (Int.le_of_lt hm)) h1 h2, .set⟩
  · rw [if_neg h]
    refine ⟨.inl (.inr ha), by omega, ?_⟩
    simp only [get_set hs]
    walk_at "rf"
    have b1 : 0 ≤ (p1 * a + b).fmod m := Int.fmod_nonneg_of_pos _ hmm.1
    have b2 : (p1 * a + b).fmod m < m := Int.fmod_lt_of_pos _ hmm.1
    have sd : Sz 30 d := by unfold Sz; omega
    refine ⟨.inl (.inl (by omega)), hc, sd.divOk (by omega) (by omega), by omega, _, rfl, Int.fmod_nonneg_of_pos _ hm, Int.fmod_lt_of_pos _ hm, .set ⟨_, hs⟩ h0 b1 (by omega), .set⟩
/-! ### the pot -/
def potB (a b m c d e g : Int) : Sms := (.cons (.asg (.name 2) (.bin .add (.bin .add (.bin .mul (.cst (.int a)) (.var 1)) (.cst (.int b))) (.bin .mod (.blt .int (.cons (.blt .abs (.cons (.blt .sum (.cons (.slc (.var 0) false .omit true (.cst (.int 1))) .nil)) .nil)) .nil)) (.cst (.int m))))) (.cons (.asg (.name 3) (.ite (.cmp .lt (.var 1) (.blt .len (.cons (.var 0) .nil))) (.blt .abs (.cons (.sub (.var 0) (.var 1)) .nil)) (.var 2))) (.cons (.ret (.lst (.cons (.blt .max2 (.cons (.cst (.int 0)) (.cons (.bin .sub (.var 3) (.bin .pow (.cst (.int 10)) (.cst (.int 18)))) .nil))) (.cons (.bin .add (.bin .mod (.blt .int (.cons (.bin .add (.bin .add (.bin .mul (.bin .mod (.blt .int (.cons (.var 3) .nil)) (.cst (.int c))) (.cst (.int d))) (.bin .mul (.cst (.int e)) (.var 1))) (.cst (.int b))) .nil)) (.cst (.int g))) (.cst (.int 1))) .nil)))) .nil)))
theorem intsOf_map : ∀ l : List Int, intsOf (l.map W.int) = some l
  | [] => rfl
  | i :: l => by show (intsOf (l.map W.int)).map (i :: ·) = _; rw [intsOf_map l]; rfl
theorem cut_map (ns : List Int) (lo hi : Option Int) : cutG (ns.map W.int) lo hi = (cutG ns lo hi).map W.int := by
  unfold cutG; simp only [List.length_map, List.map_take, List.map_drop]
theorem ol_sumM {S : Store} {l : List Int} {Q : W → Prop} : Wo (bltW S .sum [.lst (l.map W.int)]) Q = Q (.int l.sum) := by
  show Wo ((intsOf (l.map W.int)).map fun ns => W.int ns.sum) Q = _
  rw [intsOf_map]; rfl
theorem os_slcR {S : Store} {xs : List W} {lo hi : Option Int} {Q : W → Prop} : Wo (slcW S (.ro xs) lo hi) Q = Q (.lst (cutG xs lo hi)) := rfl
theorem wp_someI {S : Store} {o : Option Int} {Q : Option Int → Store → Prop} : Wp (some (o, S)) Q = Q o S := rfl
theorem pot_at {f k : Nat} {ns : List Int} {i : Nat} {a b m c d e g : Int} (hq : L[f]? = some ⟨⟨2, 4, true, potB a b m c d e g⟩, D, ps, N⟩) (ha : a.natAbs < 2 ^ 64) (hm : m ≠ 0) (hc : c ≠ 0) (hd : d.natAbs < 2 ^ 64) (he : e.natAbs < 2 ^ 64) (hg : 0 < g ∧ g < 2 ^ 39) (hi : (i : Int) < 2 ^ 60) :
    Fn L con fuel (k + 1) f [.ro (ns.map .int), .int i] fun w => ∃ p0 p1 : Int, w = .lst [.int p0, .int p1] ∧ 0 ≤ p0 ∧ 0 ≤ p1 ∧ p1 < 2 ^ 40 := by
  refine at_def hq rfl fun M hM hf hcon hfr => ?_
  simp only [potB]
  have key : ∀ cell : Int, (0 : Int) ≤ (if cell - 10 ^ (18 : Int).toNat > 0 then cell - 10 ^ (18 : Int).toNat else 0) := fun cell => by split <;> omega
  walk_at "rf"
  simp only [wp_someI, os_slcR, cut_map, ol_sumM]
  walk_at "rf"
  have ki : MulOk a (i : Int) := .inl (.inl ha)
  have ke : MulOk e (i : Int) := .inl (.inl he)
  have kd : ∀ x : Int, MulOk x d := fun x => .inl (.inr hd)
  have fin : ∀ x : Int, 0 ≤ x.fmod g + 1 ∧ x.fmod g + 1 < 2 ^ 40 := fun x => by
    have b1 := Int.fmod_nonneg_of_pos x hg.1
    have b2 := Int.fmod_lt_of_pos x hg.1
    omega
  refine ⟨ki, hm, ?_⟩
  by_cases h : (i : Int) < ((ns.map W.int).length : Int)
  · rw [if_pos h]
    have hn : i < ns.length := by rw [List.length_map] at h; omega
    rw [at_nat (by rw [List.length_map]; exact hn), List.getElem_map]
    walk_at "rf"
    exact ⟨by decide, hc, kd _, ke, by omega, size_ok (by omega), _, _, rfl, key _, (fin _).1, (fin _).2⟩
  · rw [if_neg h]
    exact ⟨by decide, hc, kd _, ke, by omega, size_ok (by omega), _, _, rfl, key _, (fin _).1, (fin _).2⟩
/-! ### great draws -/
theorem rangeW_len (lo : Int) (n : Nat) : (rangeW lo n).length = n := by simp [rangeW]
theorem rangeW_mem {lo : Int} {n : Nat} {x : W} (h : x ∈ rangeW lo n) : ∃ i : Nat, i < n ∧ x = .int (lo + i) := by
  unfold rangeW at h
  obtain ⟨i, h1, h2⟩ := List.mem_map.mp h
  exact ⟨i, List.mem_range.mp h1, h2.symm⟩
/-- a draw's promise: digits from 0 to many - 1 -/
def IsDraw (L : List Dt) (con : Nat → W) (fuel f : Nat) : Prop := ∀ (k n : Nat) (S : Store) (many : Int), Pot n S → 0 < many → many < 2 ^ 64 → At L con fuel (k + 1) f [.loc n, .int many] S fun w S' => ∃ x, w = .int x ∧ 0 ≤ x ∧ x < many ∧ Pot n S' ∧ Fr n S S'
theorem IsDraw.wc {f k n : Nat} {M : Sem} {S : Store} {many : Int} {Q : W → Store → Prop} (h : IsDraw L con fuel f) (hM : ∀ f ds S Q, At L con fuel (k + 1) f ds S Q → Wc M f ds S Q) (hp : Pot n S) (h1 : 0 < many) (h2 : many < 2 ^ 64) (q : ∀ x S', 0 ≤ x → x < many → Pot n S' → Fr n S S' → Q (.int x) S') : Wc M f [.loc n, .int many] S Q :=
  (hM _ _ _ _ (h k n S many hp h1 h2)).mono fun w S' ⟨x, e, a, b, c, d⟩ => by rw [e]; exact q x S' a b c d
def greatB (dr : Nat) : Sms := (.cons (.asg (.name 1) (.cst (.int 0))) (.cons (.for_ (.name 2) (.range1 (.cst (.int 3))) (.cons (.asg (.name 1) (.bin .add (.bin .mul (.var 1) (.bin .pow (.cst (.int 10)) (.cst (.int 9)))) (.callS dr (.cons (.var 0) (.cons (.bin .pow (.cst (.int 10)) (.cst (.int 9))) .nil))))) .nil)) (.cons (.ret (.var 1)) .nil)))
theorem great_at {f k n dr : Nat} {S : Store} (hq : L[f]? = some ⟨⟨1, 3, false, greatB dr⟩, D, ps, N⟩) (hd : IsDraw L con fuel dr) (hp : Pot n S) : At L con fuel (k + 2) f [.loc n] S fun w S' => ∃ x, w = .int x ∧ 0 ≤ x ∧ x < 10 ^ 27 ∧ Pot n S' ∧ Fr n S S' := by
  refine at_def hq rfl fun M hM hf hcon hfr => ?_
  simp only [greatB]
  walk_at "rf"
  refine ⟨by decide, ?_⟩
  have e3 : rangeW 0 (3 : Int).toNat = [.int 0, .int 1, .int 2] := rfl
  rw [e3]
  simp only [wr_forCons, wr_forNil]
  walk_at "rf"
  have t1 : (10 : Int) ^ (9 : Int).toNat = 1000000000 := by decide
  simp only [t1]
  refine ⟨by decide, .inl (.inr (by decide)), by decide, hd.wc hM hp (by decide) (by decide) fun x1 S1 a1 a2 a3 a4 => ?_⟩
  walk_at "rf"
  refine ⟨by decide, .inl (.inr (by decide)), by decide, hd.wc hM a3 (by decide) (by decide) fun x2 S2 b1 b2 b3 b4 => ?_⟩
  walk_at "rf"
  refine ⟨by decide, .inl (.inr (by decide)), by decide, hd.wc hM b3 (by decide) (by decide) fun x3 S3 c1 c2 c3 c4 => ?_⟩
  walk_at "rf"
  exact ⟨_, rfl, by omega, by omega, c3, a4.trans (b4.trans c4)⟩
end
end Rf

namespace Rf
local macro_rules | `(tactic| walk_at "rf") => `(tactic| simp only [wp_var, wp_cst, wp_con, wp_edict, wps_nil, wps_cons, wp_tup, wp_lst, wp_bin, wp_cmp, wp_sub, wp_neg, wp_nott, wp_andd, wp_orr, wp_ite, wp_blt, wp_isi, wp_call, wp_callS, wp_callK, wp_meth, wp_thaw, wp_slc, wp_intPart, Wt,
  wrs_nil, wrs_cons, wr_asg, wr_expr, wr_ret, wr_retN, wr_if, wr_cont, wr_brk, wr_pass, wr_never, wp_name, wp_ttup, wp_tnil, wp_tcons, wp_tsub, wi_seq, wi_enum, wi_range1, wi_range2, wi_zip2, wr_for, wp_comp, wts_nil, wts_one, wp_cat, wk_free, wp_repr, wr_freeze, om_append, om_extend, lo_loc, Option.isSome_some, List.append_nil,
  ob_add, ob_sub, ob_mul, ob_fdiv, ob_mod, ob_pow, oc_lt, oc_le, oc_gt, oc_ge, oc_eqI, oc_neI, oc_isN, oc_notN, ot_bl, ot_int, ol_abs, ol_max, ol_min, ol_intI, ol_intB, ol_gcd, ol_lenT, ol_lenL, ol_lenR,
  oi_non_bool, oi_non_int, oi_non_str, oi_non_tuple, oi_non_list, oi_non_dict, oi_bl_bool, oi_bl_int, oi_bl_str, oi_bl_tuple, oi_bl_list, oi_bl_dict, oi_int_bool, oi_int_int, oi_int_str, oi_int_tuple, oi_int_list, oi_int_dict, oi_str_bool, oi_str_int, oi_str_str, oi_str_tuple, oi_str_list, oi_str_dict, oi_tup_bool, oi_tup_int, oi_tup_str, oi_tup_tuple, oi_tup_list, oi_tup_dict, oi_lst_bool, oi_lst_int, oi_lst_str, oi_lst_tuple, oi_lst_list, oi_lst_dict, oi_edict_bool, oi_edict_int, oi_edict_str, oi_edict_tuple, oi_edict_list, oi_edict_dict, os_tup, os_lst, os_ro, os_loc, oset_loc, at0, at1, at2, at3, ix_two0, ix_two1, wipeE, arrange, fresh, W.free, W.frees, rq, Bool.and_true, Bool.and_self,
  List.getElem?_cons_zero, List.getElem?_cons_succ, Option.join_some, wo_some, wo_none, List.set_cons_zero, List.set_cons_succ, List.length_cons, List.length_nil, List.map_cons, List.map_nil, List.cons_append, List.nil_append, List.replicate_succ, List.replicate_zero, Nat.reduceSub, Nat.reduceAdd, Nat.reduceLT, true_and, and_true, if_true, decide_eq_true_eq, Bool.false_eq_true, Bool.true_eq_false, if_false, ite_true, ite_false, not_true_eq_false, not_false_eq_true, Bool.not_true, Bool.not_false, Bool.not_eq_true', decide_eq_false_iff_not, Bool.not_eq_eq_eq_not, Int.cast_ofNat_Int, Int.reduceEq, Int.reduceLT, Int.reduceLE, Int.reduceNe, reduceCtorEq])
theorem os_rq0 {S : Store} {q : Rat} {Q : W → Prop} : Wo (subW S (rq q) (.int 0)) Q = Q (.int q.num) := rfl
theorem os_rq1 {S : Store} {q : Rat} {Q : W → Prop} : Wo (subW S (rq q) (.int 1)) Q = Q (.int q.den) := rfl
theorem Dat.rq {n : Nat} (q : Rat) : Dat (n + 1) (rq q) := .tup (by simp) fun x hx => by
  simp only [List.mem_cons, List.not_mem_nil, or_false] at hx
  rcases hx with rfl | rfl
  · exact .int _
  · exact .int _
theorem Dat.up : ∀ {n : Nat} {w : W}, Dat n w → Dat (n + 1) w
  | _, _, .non => .non
  | _, _, .bl b => .bl b
  | _, _, .int i => .int i
  | _, _, .str x => .str x
  | _, _, .tup h1 h2 => .tup h1 fun x hx => (h2 x hx).up
  | _, _, .lst h1 h2 => .lst h1 fun x hx => (h2 x hx).up
section
variable {L : List Dt} {con : Nat → W} {fuel : Nat} {D : He.DefD} {ps N : List PySem.Str}
/-- a number drawn -/
def IsNumber (L : List Dt) (con : Nat → W) (fuel b f : Nat) : Prop := ∀ (k n : Nat) (S : Store), Pot n S → At L con fuel (k + b) f [.loc n] S fun w S' => (∃ q, IsNum w q ∧ Rz 100 q) ∧ Pot n S' ∧ Fr n S S'
def numberB (dr md gr : Nat) : Sms := (.cons (.asg (.name 1) (.callS dr (.cons (.var 0) (.cons (.cst (.int 9)) .nil)))) (.cons (.iff (.cmp .lt (.var 1) (.cst (.int 3))) (.cons (.ret (.bin .sub (.callS dr (.cons (.var 0) (.cons (.cst (.int 9)) .nil))) (.cst (.int 4)))) .nil) .nil) (.cons (.iff (.cmp .lt (.var 1) (.cst (.int 7))) (.cons (.ret (.call md (.cons (.bin .sub (.callS dr (.cons (.var 0) (.cons (.cst (.int 13)) .nil))) (.cst (.int 6))) (.cons (.bin .add (.cst (.int 1)) (.callS dr (.cons (.var 0) (.cons (.cst (.int 6)) .nil)))) .nil)))) .nil) .nil) (.cons (.asg (.name 2) (.bin .mul (.bin .add (.callS gr (.cons (.var 0) .nil)) (.cst (.int 1))) (.bin .sub (.cst (.int 1)) (.bin .mul (.cst (.int 2)) (.callS dr (.cons (.var 0) (.cons (.cst (.int 2)) .nil))))))) (.cons (.ret (.ite (.cmp .eq (.var 1) (.cst (.int 7))) (.var 2) (.call md (.cons (.var 2) (.cons (.bin .add (.cst (.int 1)) (.callS gr (.cons (.var 0) .nil))) .nil))))) .nil)))))
theorem num_int {i : Int} (h : Sz 100 i) : ∃ q, IsNum (.int i) q ∧ Rz 100 q := ⟨(i : Rat), .inr ⟨i, rfl, rfl⟩, h, by show Sz 100 ((1 : Nat) : Int); unfold Sz; decide⟩
theorem num_low {a b : Int} (hb : b ≠ 0) (h1 : Sz 100 a) (h2 : Sz 100 b) : ∃ q, IsNum (rq (Rat.divInt a b)) q ∧ Rz 100 q := ⟨_, .inl rfl, .of hb h1 h2⟩
theorem number_at {f dr md gr : Nat} {D' : He.DefD} {ps' N' : List PySem.Str} (hq : L[f]? = some ⟨⟨1, 3, false, numberB dr md gr⟩, D, ps, N⟩) (hd : IsDraw L con fuel dr) (hm : IsMade L con fuel 1 md) (hg : L[gr]? = some ⟨⟨1, 3, false, greatB dr⟩, D', ps', N'⟩) : IsNumber L con fuel 3 f := by
  intro k n S hp
  refine at_def hq rfl fun M hM hf hcon hfr => ?_
  simp only [numberB]
  walk_at "rf"
  refine hd.wc (k := k + 1) hM hp (by decide) (by decide) fun way S1 a1 a2 a3 a4 => ?_
  walk_at "rf"
  by_cases h3 : way < 3
  · rw [if_pos h3]
    refine hd.wc (k := k + 1) hM a3 (by decide) (by decide) fun x S2 b1 b2 b3 b4 => ?_
    walk_at "rf"
    exact ⟨num_int (by unfold Sz; omega), b3, a4.trans b4⟩
  · rw [if_neg h3]
    by_cases h7 : way < 7
    · rw [if_pos h7]
      refine hd.wc (k := k + 1) hM a3 (by decide) (by decide) fun x S2 b1 b2 b3 b4 => ?_
      walk_at "rf"
      refine hd.wc (k := k + 1) hM b3 (by decide) (by decide) fun y S3 c1 c2 c3 c4 => ?_
      walk_at "rf"
      exact (hm (k + 2) (x - 6) (1 + y) (by omega) (by omega) (by unfold Sz; omega) (by unfold Sz; omega)).eq hM ⟨num_low (by omega) (by unfold Sz; omega) (by unfold Sz; omega), c3, a4.trans (b4.trans c4)⟩
    · rw [if_neg h7]
      refine (hM _ _ _ _ (great_at (k := k) hg hd a3)).mono fun w S2 ⟨x, e, b1, b2, b3, b4⟩ => ?_
      subst e
      walk_at "rf"
      refine hd.wc (k := k + 1) hM b3 (by decide) (by decide) fun y S3 c1 c2 c3 c4 => ?_
      walk_at "rf"
      have sx : Sz 95 (x + 1) := by unfold Sz; omega
      have sy : Sz 5 (1 - 2 * y) := by unfold Sz; omega
      have st : Sz 100 ((x + 1) * (1 - 2 * y)) := sx.mul sy
      refine ⟨.inl (.inl (by decide)), sx.mulOk sy (by decide), ?_⟩
      by_cases hw : way = 7
      · rw [if_pos hw]
        exact ⟨num_int st, c3, a4.trans (b4.trans c4)⟩
      · rw [if_neg hw]
        refine (hM _ _ _ _ (great_at (k := k) hg hd c3)).mono fun w S4 ⟨z, e, d1, d2, d3, d4⟩ => ?_
        subst e
        walk_at "rf"
        have sz : Sz 100 (1 + z) := by unfold Sz; omega
        exact (hm (k + 2) _ (1 + z) (by omega) (by omega) (st.up (by omega)) (sz.up (by omega))).eq hM ⟨num_low (by omega) st sz, d3, a4.trans (b4.trans (c4.trans d4))⟩
def pickB (dr : Nat) : Sms := (.cons (.ret (.sub (.var 1) (.callS dr (.cons (.var 0) (.cons (.blt .len (.cons (.var 1) .nil)) .nil))))) .nil)
theorem pick_at {f k n dr : Nat} {S : Store} {xs : List W} (hq : L[f]? = some ⟨⟨2, 2, false, pickB dr⟩, D, ps, N⟩) (hd : IsDraw L con fuel dr) (hp : Pot n S) (h0 : xs ≠ []) (hl : xs.length < 2 ^ 60) : At L con fuel (k + 2) f [.loc n, .tup xs] S fun w S' => w ∈ xs ∧ Pot n S' ∧ Fr n S S' := by
  refine at_def hq rfl fun M hM hf hcon hfr => ?_
  simp only [pickB]
  walk_at "rf"
  have hl0 : 0 < xs.length := List.length_pos_iff.mpr h0
  refine hd.wc (k := k) hM hp (by omega) (by omega) fun x S2 b1 b2 b3 b4 => ?_
  walk_at "rf"
  obtain ⟨w, e, hw⟩ := at_int b1 b2
  rw [e]
  exact ⟨hw, b3, b4⟩
end
end Rf

namespace Rf
local macro_rules | `(tactic| walk_at "rg") => `(tactic| simp only [wp_var, wp_cst, wp_con, wp_edict, wps_nil, wps_cons, wp_tup, wp_lst, wp_bin, wp_cmp, wp_sub, wp_neg, wp_nott, wp_andd, wp_orr, wp_ite, wp_blt, wp_isi, wp_call, wp_callS, wp_callK, wp_meth, wp_thaw, wp_slc, wp_intPart, Wt,
  wrs_nil, wrs_cons, wr_asg, wr_expr, wr_ret, wr_retN, wr_if, wr_cont, wr_brk, wr_pass, wr_never, wp_name, wp_ttup, wp_tnil, wp_tcons, wp_tsub, wi_seq, wi_enum, wi_range1, wi_range2, wi_zip2, wr_for, wp_comp, wts_nil, wts_one, wp_cat, wk_free, wp_repr, wr_freeze, om_append, om_extend, lo_loc, Option.isSome_some, List.append_nil,
  ob_add, ob_sub, ob_mul, ob_fdiv, ob_mod, ob_pow, oc_lt, oc_le, oc_gt, oc_ge, oc_eqI, oc_neI, oc_isN, oc_notN, ot_bl, ot_int, ol_abs, ol_max, ol_min, ol_intI, ol_intB, ol_gcd, ol_lenT, ol_lenL, ol_lenR,
  oi_non_bool, oi_non_int, oi_non_str, oi_non_tuple, oi_non_list, oi_non_dict, oi_bl_bool, oi_bl_int, oi_bl_str, oi_bl_tuple, oi_bl_list, oi_bl_dict, oi_int_bool, oi_int_int, oi_int_str, oi_int_tuple, oi_int_list, oi_int_dict, oi_str_bool, oi_str_int, oi_str_str, oi_str_tuple, oi_str_list, oi_str_dict, oi_tup_bool, oi_tup_int, oi_tup_str, oi_tup_tuple, oi_tup_list, oi_tup_dict, oi_lst_bool, oi_lst_int, oi_lst_str, oi_lst_tuple, oi_lst_list, oi_lst_dict, oi_edict_bool, oi_edict_int, oi_edict_str, oi_edict_tuple, oi_edict_list, oi_edict_dict, os_tup, os_lst, os_ro, os_loc, oset_loc, at0, at1, at2, at3, ix_two0, ix_two1, wipeE, arrange, fresh, W.free, W.frees, rq_free, os_rq0, os_rq1,  Bool.and_true, Bool.and_self,
  List.getElem?_cons_zero, List.getElem?_cons_succ, Option.join_some, wo_some, wo_none, List.set_cons_zero, List.set_cons_succ, List.length_cons, List.length_nil, List.map_cons, List.map_nil, List.cons_append, List.nil_append, List.replicate_succ, List.replicate_zero, Nat.reduceSub, Nat.reduceAdd, Nat.reduceLT, true_and, and_true, if_true, decide_eq_true_eq, Bool.false_eq_true, Bool.true_eq_false, if_false, ite_true, ite_false, not_true_eq_false, not_false_eq_true, Bool.not_true, Bool.not_false, Bool.not_eq_true', decide_eq_false_iff_not, Bool.not_eq_eq_eq_not, Int.cast_ofNat_Int, Int.reduceEq, Int.reduceLT, Int.reduceLE, Int.reduceNe, reduceCtorEq])
/-! ### rows of numbers -/
theorem seq_lst {xs : List W} {Q : List W → Prop} : Wo (seqOf (.lst xs)) Q = Q xs := rfl
theorem seq_tup {xs : List W} {Q : List W → Prop} : Wo (seqOf (.tup xs)) Q = Q xs := rfl
theorem ol_lcm {S : Store} {a b : Int} {Q : W → Prop} : Wo (bltW S .lcm [.int a, .int b]) Q = ((a.natAbs.log2 < 13000 ∧ b.natAbs.log2 < 13000) ∧ Q (.int (a.natAbs.lcm b.natAbs : Nat))) := wo_if
/-- values that stand for these rationals -/
inductive Row : List W → List Rat → Prop
  | nil : Row [] []
  | cons {w : W} {q : Rat} {ws : List W} {qs : List Rat} : IsNum w q → Row ws qs → Row (w :: ws) (q :: qs)
def Rzs (n : Nat) (qs : List Rat) : Prop := ∀ q ∈ qs, Rz n q
/-- the least common denominator so far -/
def lcmD (c : Nat) : List Rat → Nat
  | [] => c
  | q :: qs => lcmD (c.lcm q.den) qs
theorem lcmD_dvd : ∀ (qs : List Rat) (c : Nat), c ∣ lcmD c qs ∧ ∀ q ∈ qs, q.den ∣ lcmD c qs
  | [], c => ⟨Nat.dvd_refl c, fun q h => by cases h⟩
  | q :: qs, c => by
    obtain ⟨h1, h2⟩ := lcmD_dvd qs (c.lcm q.den)
    refine ⟨Nat.dvd_trans (Nat.dvd_lcm_left _ _) h1, fun p hp => ?_⟩
    rcases List.mem_cons.mp hp with rfl | hp
    · exact Nat.dvd_trans (Nat.dvd_lcm_right _ _) h1
    · exact h2 p hp
theorem lcmD_pos : ∀ (qs : List Rat) (c : Nat), 0 < c → 0 < lcmD c qs
  | [], c, h => h
  | q :: qs, c, h => lcmD_pos qs _ (Nat.lcm_pos h q.den_pos)
theorem sz_lcm {n m : Nat} {a b : Nat} (h : Sz n (a : Int)) (h' : Sz m (b : Int)) : Sz (n + m) ((a.lcm b : Nat) : Int) := by
  unfold Sz at *
  rw [Int.natAbs_natCast] at *
  have : a.lcm b ≤ a * b := Nat.div_le_self _ _
  rw [Nat.pow_add]
  exact Nat.lt_of_le_of_lt this (Nat.mul_lt_mul'' h h')
theorem lcmD_sz {m : Nat} : ∀ (qs : List Rat) (c n : Nat), Rzs m qs → Sz n (c : Int) → Sz (n + m * qs.length) ((lcmD c qs : Nat) : Int)
  | [], c, n, _, h => by simpa [lcmD] using h
  | q :: qs, c, n, hr, h => by
    have := lcmD_sz qs (c.lcm q.den) (n + m) (fun p hp => hr p (List.mem_cons_of_mem _ hp)) (sz_lcm h (hr q List.mem_cons_self).2)
    rw [List.length_cons, Nat.mul_succ, ← Nat.add_assoc, Nat.add_right_comm]
    exact this
section
variable {L : List Dt} {con : Nat → W} {fuel : Nat} {D : He.DefD} {ps N : List PySem.Str}
def commonB : Sms := (.cons (.asg (.name 1) (.cst (.int 1))) (.cons (.for_ (.tup (.cons (.name 2) (.cons (.name 3) .nil))) (.seq (.var 0)) (.cons (.asg (.name 1) (.blt .lcm (.cons (.var 1) (.cons (.var 3) .nil)))) .nil)) (.cons (.ret (.var 1)) .nil)))
theorem common_at {f k : Nat} {qs : List Rat} (hq : L[f]? = some ⟨⟨1, 4, false, commonB⟩, D, ps, N⟩) (hr : Rzs 100 qs) (hl : qs.length ≤ 20) : Fn L con fuel (k + 1) f [.lst (qs.map rq)] (· = .int (lcmD 1 qs : Nat)) := by
  refine at_def hq rfl fun M hM hf hcon hfr => ?_
  simp only [commonB]
  walk_at "rg"
  simp only [seq_lst]
  refine wr_forI (I := fun xs env S => ∃ (c n : Nat) (rs : List Rat) (t u : Option W), xs = rs.map rq ∧ env = [some (.lst (qs.map rq)), some (.int (c : Nat)), t, u] ∧ lcmD c rs = lcmD 1 qs ∧ Sz n (c : Int) ∧ n + 100 * rs.length ≤ 3000 ∧ Rzs 100 rs) (fun x xs env S ⟨c, n, rs, t, u, e1, e2, e3, e4, e5, e6⟩ => ?_) (fun env S ⟨c, n, rs, t, u, e1, e2, e3, e4, e5, e6⟩ => ?_) _ _ _ ⟨1, 1, qs, none, none, rfl, rfl, rfl, by unfold Sz; decide, by omega, hr⟩
  · cases rs with
    | nil => cases e1
    | cons q rs =>
      simp only [List.map_cons, List.cons.injEq] at e1
      obtain ⟨rfl, rfl⟩ := e1
      subst e2
      have hq := e6 q List.mem_cons_self
      rw [List.length_cons] at e5
      simp only [rq]
      walk_at "rg"
      simp only [ol_lcm, Int.natAbs_natCast]
      refine ⟨⟨?_, ?_⟩, c.lcm q.den, n + 100, rs, _, _, rfl, rfl, e3, sz_lcm e4 hq.2, by omega, fun p hp => e6 p (List.mem_cons_of_mem _ hp)⟩
      · have := e4.log; rw [Int.natAbs_natCast] at this; omega
      · have := hq.2.log; rw [Int.natAbs_natCast] at this; omega
  · cases rs with
    | cons q rs => cases e1
    | nil =>
      subst e2
      walk_at "rg"
      rw [← e3]; rfl
theorem Row.length : ∀ {ws : List W} {qs : List Rat}, Row ws qs → ws.length = qs.length
  | _, _, .nil => rfl
  | _, _, .cons _ r => by rw [List.length_cons, List.length_cons, r.length]
theorem Row.frees : ∀ {ws : List W} {qs : List Rat}, Row ws qs → W.frees ws = true
  | _, _, .nil => rfl
  | _, _, .cons h r => by show (_ && W.frees _) = true; rw [h.free, r.frees]; rfl
theorem frees_rq : ∀ qs : List Rat, W.frees (qs.map rq) = true
  | [] => rfl
  | q :: qs => by show ((rq q).free && W.frees (qs.map rq)) = true; rw [frees_rq qs]; rfl
/-- the tops over the common denominator -/
def topsD (c : Nat) (qs : List Rat) : List Int := qs.map fun q => q.num * ((c : Int).fdiv q.den)
theorem tops_sum {c : Nat} (hc : 0 < c) : ∀ qs : List Rat, (∀ q ∈ qs, q.den ∣ c) → Rat.divInt (topsD c qs).sum c = qs.sum
  | [], _ => by simp [topsD]
  | q :: qs, h => by
    have ih := tops_sum hc qs fun p hp => h p (List.mem_cons_of_mem _ hp)
    have c0 : (c : Int) ≠ 0 := by omega
    obtain ⟨m, hm⟩ := h q List.mem_cons_self
    have m0 : (m : Int) ≠ 0 := by
      intro z
      have : m = 0 := by omega
      rw [this, Nat.mul_zero] at hm; omega
    have e1 : Rat.divInt (q.num * ((c : Int).fdiv q.den)) c = q := by
      have : (c : Int) = (q.den : Int) * m := by rw [hm]; exact Int.natCast_mul _ _
      rw [this, Int.fdiv_eq_ediv_of_nonneg _ (by omega), Int.mul_ediv_cancel_left _ (den_ne q), Rat.divInt_mul_right m0, Rat.num_divInt_den]
    show Rat.divInt ((q.num * ((c : Int).fdiv q.den)) + (topsD c qs).sum) c = q + qs.sum
    rw [← ih, show q + Rat.divInt (topsD c qs).sum c = Rat.divInt (q.num * ((c : Int).fdiv q.den)) c + Rat.divInt (topsD c qs).sum c from by rw [e1], Rat.divInt_add_divInt _ _ c0 c0, ← Int.add_mul, Rat.divInt_mul_right c0]
theorem frees_mint : ∀ l : List Int, W.frees (l.map W.int) = true
  | [] => rfl
  | i :: l => by show (true && W.frees (l.map W.int)) = true; rw [frees_mint l]; rfl
/-- a comprehension of known answers -/
theorem wg_zip {M : Sem} {elt : Xp} {tg : Xt} {own : List Nat} {env : Env} {S : Store} {Q : List W → Store → Prop} (zs : List (W × W)) (hs : ∀ p ∈ zs, Wp (asgT M tg p.1 (wipeE env own) S) fun e S1 => Wp (evE M elt e S1) fun y S2 => y = p.2 ∧ S2 = S) (hl : zs.length ≤ 1000) (q : Q (zs.map (·.2)) S) :
    Wg M elt tg .nil own env (zs.map (·.1)) [] S Q := by
  refine wg_I (I := fun rest acc S' => ∃ a b : List (W × W), zs = a ++ b ∧ rest = b.map (·.1) ∧ acc = a.map (·.2) ∧ S' = S) (fun x rest acc S' ⟨a, b, e1, e2, e3, e4⟩ => ?_) (fun acc S' ⟨a, b, e1, e2, e3, e4⟩ => ?_) _ _ _ ⟨[], zs, rfl, rfl, rfl, rfl⟩
  · cases b with
    | nil => cases e2
    | cons p b =>
      simp only [List.map_cons, List.cons.injEq] at e2
      obtain ⟨rfl, rfl⟩ := e2
      subst e4
      have la : a.length < 1000 := by rw [e1, List.length_append, List.length_cons] at hl; omega
      refine (hs p (by rw [e1]; exact List.mem_append_right _ List.mem_cons_self)).mono fun e S1 h1 => ?_
      rw [wts_nil, if_pos rfl]
      refine h1.mono fun y S2 ⟨h2, h3⟩ => ⟨?_, a ++ [p], b, by rw [e1, List.append_assoc]; rfl, rfl, ?_, h3⟩
      · rw [e3, List.length_map, PySem.sizeLine_eq]; omega
      · rw [e3, h2, List.map_append]; rfl
  · cases b with
    | cons p b => cases e2
    | nil => subst e4; rw [e3]; rw [List.append_nil] at e1; rw [← e1]; exact q
theorem Row.zip {f : Rat → W} : ∀ {ws : List W} {qs : List Rat}, Row ws qs → ∃ zs : List (W × W), zs.map (·.1) = ws ∧ zs.map (·.2) = qs.map f ∧ ∀ p ∈ zs, ∃ q ∈ qs, IsNum p.1 q ∧ p.2 = f q
  | _, _, .nil => ⟨[], rfl, rfl, fun _ h => by cases h⟩
  | _, _, @Row.cons w q ws qs h r => by
    obtain ⟨zs, e1, e2, e3⟩ := r.zip (f := f)
    refine ⟨(w, f q) :: zs, by rw [List.map_cons, e1], by rw [List.map_cons, e2]; rfl, fun p hp => ?_⟩
    rcases List.mem_cons.mp hp with rfl | hp
    · exact ⟨q, List.mem_cons_self, h, rfl⟩
    · obtain ⟨q', h1, h2⟩ := e3 p hp
      exact ⟨q', List.mem_cons_of_mem _ h1, h2⟩
/-- each of these in turn, whichever way -/
theorem wg_row {M : Sem} {elt : Xp} {tg : Xt} {own : List Nat} {env : Env} {S : Store} {Q : List W → Store → Prop} {ws : List W} {qs : List Rat} (f : Rat → W) (r : Row ws qs) (hs : ∀ w q, q ∈ qs → IsNum w q → Wp (asgT M tg w (wipeE env own) S) fun e S1 => Wp (evE M elt e S1) fun y S2 => y = f q ∧ S2 = S) (hl : qs.length ≤ 1000) (q : Q (qs.map f) S) :
    Wg M elt tg .nil own env ws [] S Q := by
  obtain ⟨zs, e1, e2, e3⟩ := r.zip (f := f)
  rw [← e1]
  refine wg_zip zs (fun p hp => ?_) (by have := congrArg List.length e2; rw [List.length_map, List.length_map] at this; omega) (by rw [e2]; exact q)
  obtain ⟨q', h1, h2, h3⟩ := e3 p hp
  rw [h3]
  exact hs p.1 q' h1 h2
theorem row_rq : ∀ qs : List Rat, Row (qs.map rq) qs
  | [] => .nil
  | q :: qs => .cons (.inl rfl) (row_rq qs)
def clearedB (pr cm : Nat) : Sms := (.cons (.asg (.name 1) (.comp (.call pr (.cons (.var 3) .nil)) (.name 3) (.seq (.var 0)) .nil [3])) (.cons (.asg (.name 2) (.call cm (.cons (.var 1) .nil))) (.cons (.ret (.tup (.cons (.comp (.bin .mul (.var 4) (.bin .fdiv (.var 2) (.var 5))) (.tup (.cons (.name 4) (.cons (.name 5) .nil))) (.seq (.var 1)) .nil [4, 5]) (.cons (.var 2) .nil)))) .nil)))
theorem cleared_at {f k pr cm : Nat} {w : W} {ws : List W} {qs : List Rat} {D1 D2 : He.DefD} {p1 n1 p2 n2 : List PySem.Str} (hq : L[f]? = some ⟨⟨1, 6, false, clearedB pr cm⟩, D, ps, N⟩) (h1 : L[pr]? = some ⟨⟨1, 1, false, pairB⟩, D1, p1, n1⟩) (h2 : L[cm]? = some ⟨⟨1, 4, false, commonB⟩, D2, p2, n2⟩)
    (hw : w = .lst ws ∨ w = .tup ws) (r : Row ws qs) (hr : Rzs 100 qs) (hl : qs.length ≤ 20) : Fn L con fuel (k + 2) f [w] (· = .tup [.lst ((topsD (lcmD 1 qs) qs).map .int), .int (lcmD 1 qs : Nat)]) := by
  refine at_def hq rfl fun M hM hf hcon hfr => ?_
  simp only [clearedB]
  have c0 := lcmD_pos qs 1 (by omega)
  have cs : Sz 2001 ((lcmD 1 qs : Nat) : Int) := (lcmD_sz qs 1 1 hr (by unfold Sz; decide)).up (by omega)
  walk_at "rg"
  have es : seqOf w = some ws := by rcases hw with rfl | rfl <;> rfl
  rw [es, wo_some]
  refine wg_row rq r (fun w q hq' hn => ?_) (by omega) ?_
  · walk_at "rg"
    exact (pair_at (k := k) h1 hn).wk hM (fr1 hn.free) ⟨rfl, rfl⟩
  refine (common_at (k := k) h2 hr hl).wk hM (by show (W.frees (qs.map rq) && true) = true; rw [frees_rq]; rfl) ?_
  rw [seq_lst]
  have ym : (topsD (lcmD 1 qs) qs).map W.int = qs.map fun q => W.int (q.num * ((lcmD 1 qs : Nat) : Int).fdiv q.den) := by unfold topsD; rw [List.map_map]; rfl
  have zs : ∀ zs : List (W × W), zs = qs.map (fun q => (rq q, W.int (q.num * ((lcmD 1 qs : Nat) : Int).fdiv q.den))) → zs.map (·.1) = qs.map rq ∧ zs.map (·.2) = qs.map fun q => W.int (q.num * ((lcmD 1 qs : Nat) : Int).fdiv q.den) := fun zs e => by
    subst e; exact ⟨by rw [List.map_map]; rfl, by rw [List.map_map]; rfl⟩
  obtain ⟨z1, z2⟩ := zs _ rfl
  rw [← z1]
  refine wg_zip _ (fun p hp => ?_) (by rw [List.length_map]; omega) ?_
  · obtain ⟨q, hq', rfl⟩ := List.mem_map.mp hp
    have rz := hr q hq'
    simp only [rq]
    walk_at "rg"
    have d1 : Sz 2001 (((lcmD 1 qs : Nat) : Int).fdiv (q.den : Int)) := by
      rw [Int.fdiv_eq_ediv_of_nonneg _ (by omega), ← Int.natCast_ediv]
      unfold Sz at *
      rw [Int.natAbs_natCast] at *
      exact Nat.lt_of_le_of_lt (Nat.div_le_self _ _) cs
    exact ⟨rz.2.divOk (den_ne q) (by omega), rz.1.mulOk d1 (by omega)⟩
  · rw [z2, ← ym]
    exact ⟨size_ok (by omega), by rw [frees_mint]; rfl, rfl⟩
end
end Rf

namespace Rf
local macro_rules | `(tactic| walk_at "rg") => `(tactic| simp only [wp_var, wp_cst, wp_con, wp_edict, wps_nil, wps_cons, wp_tup, wp_lst, wp_bin, wp_cmp, wp_sub, wp_neg, wp_nott, wp_andd, wp_orr, wp_ite, wp_blt, wp_isi, wp_call, wp_callS, wp_callK, wp_meth, wp_thaw, wp_slc, wp_intPart, Wt,
  wrs_nil, wrs_cons, wr_asg, wr_expr, wr_ret, wr_retN, wr_if, wr_cont, wr_brk, wr_pass, wr_never, wp_name, wp_ttup, wp_tnil, wp_tcons, wp_tsub, wi_seq, wi_enum, wi_range1, wi_range2, wi_zip2, wr_for, wp_comp, wts_nil, wts_one, wp_cat, wk_free, wp_repr, wr_freeze, om_append, om_extend, lo_loc, Option.isSome_some, List.append_nil,
  ob_add, ob_sub, ob_mul, ob_fdiv, ob_mod, ob_pow, oc_lt, oc_le, oc_gt, oc_ge, oc_eqI, oc_neI, oc_isN, oc_notN, ot_bl, ot_int, ol_abs, ol_max, ol_min, ol_intI, ol_intB, ol_gcd, ol_lenT, ol_lenL, ol_lenR,
  oi_non_bool, oi_non_int, oi_non_str, oi_non_tuple, oi_non_list, oi_non_dict, oi_bl_bool, oi_bl_int, oi_bl_str, oi_bl_tuple, oi_bl_list, oi_bl_dict, oi_int_bool, oi_int_int, oi_int_str, oi_int_tuple, oi_int_list, oi_int_dict, oi_str_bool, oi_str_int, oi_str_str, oi_str_tuple, oi_str_list, oi_str_dict, oi_tup_bool, oi_tup_int, oi_tup_str, oi_tup_tuple, oi_tup_list, oi_tup_dict, oi_lst_bool, oi_lst_int, oi_lst_str, oi_lst_tuple, oi_lst_list, oi_lst_dict, oi_edict_bool, oi_edict_int, oi_edict_str, oi_edict_tuple, oi_edict_list, oi_edict_dict, os_tup, os_lst, os_ro, os_loc, oset_loc, at0, at1, at2, at3, ix_two0, ix_two1, wipeE, arrange, fresh, W.free, W.frees, rq_free, os_rq0, os_rq1,  Bool.and_true, Bool.and_self,
  List.getElem?_cons_zero, List.getElem?_cons_succ, Option.join_some, wo_some, wo_none, List.set_cons_zero, List.set_cons_succ, List.length_cons, List.length_nil, List.map_cons, List.map_nil, List.cons_append, List.nil_append, List.replicate_succ, List.replicate_zero, Nat.reduceSub, Nat.reduceAdd, Nat.reduceLT, true_and, and_true, if_true, decide_eq_true_eq, Bool.false_eq_true, Bool.true_eq_false, if_false, ite_true, ite_false, not_true_eq_false, not_false_eq_true, Bool.not_true, Bool.not_false, Bool.not_eq_true', decide_eq_false_iff_not, Bool.not_eq_eq_eq_not, Int.cast_ofNat_Int, Int.reduceEq, Int.reduceLT, Int.reduceLE, Int.reduceNe, reduceCtorEq])
theorem sz_sum {n : Nat} : ∀ l : List Int, (∀ x ∈ l, Sz n x) → Sz (n + l.length) l.sum
  | [], _ => by unfold Sz; exact Nat.two_pow_pos _
  | x :: l, h => by
    have h1 := h x List.mem_cons_self
    have h2 := sz_sum l fun y hy => h y (List.mem_cons_of_mem _ hy)
    show Sz (n + (l.length + 1)) (x + l.sum)
    exact (h1.up (Nat.le_add_right n l.length)).add h2
theorem tops_sz {qs : List Rat} {n m c : Nat} (hr : Rzs n qs) (hc : Sz m (c : Int)) : ∀ x ∈ topsD c qs, Sz (n + m) x := fun x hx => by
  obtain ⟨q, hq, rfl⟩ := List.mem_map.mp hx
  refine (hr q hq).1.mul ?_
  rw [Int.fdiv_eq_ediv_of_nonneg _ (by omega), ← Int.natCast_ediv]
  unfold Sz at *
  rw [Int.natAbs_natCast] at *
  exact Nat.lt_of_le_of_lt (Nat.div_le_self _ _) hc
section
variable {L : List Dt} {con : Nat → W} {fuel : Nat} {D : He.DefD} {ps N : List PySem.Str}
/-- a def that clears a row -/
def IsCleared (L : List Dt) (con : Nat → W) (fuel f : Nat) : Prop := ∀ (k : Nat) (w : W) (ws : List W) (qs : List Rat), (w = .lst ws ∨ w = .tup ws) → Row ws qs → Rzs 100 qs → qs.length ≤ 20 → Fn L con fuel (k + 2) f [w] (· = .tup [.lst ((topsD (lcmD 1 qs) qs).map .int), .int (lcmD 1 qs : Nat)])
theorem row_free {w : W} {ws : List W} {qs : List Rat} (hw : w = .lst ws ∨ w = .tup ws) (r : Row ws qs) : w.free = true := by rcases hw with rfl | rfl <;> exact r.frees
def totalB (cl md : Nat) : Sms := (.cons (.asg (.tup (.cons (.name 1) (.cons (.name 2) .nil))) (.call cl (.cons (.var 0) .nil))) (.cons (.ret (.call md (.cons (.blt .sum (.cons (.var 1) .nil)) (.cons (.var 2) .nil)))) .nil))
theorem total_at {f k cl md : Nat} {w : W} {ws : List W} {qs : List Rat} (hq : L[f]? = some ⟨⟨1, 3, false, totalB cl md⟩, D, ps, N⟩) (h1 : IsCleared L con fuel cl) (hm : IsMade L con fuel 1 md) (hw : w = .lst ws ∨ w = .tup ws) (r : Row ws qs) (hr : Rzs 100 qs) (hl : qs.length ≤ 20) : Fn L con fuel (k + 3) f [w] (· = rq qs.sum) := by
  refine at_def hq rfl fun M hM hf hcon hfr => ?_
  simp only [totalB]
  have c0 := lcmD_pos qs 1 (by omega)
  have cs : Sz 2001 ((lcmD 1 qs : Nat) : Int) := (lcmD_sz qs 1 1 hr (by unfold Sz; decide)).up (by omega)
  walk_at "rg"
  refine (h1 k w ws qs hw r hr hl).wk hM (fr1 (row_free hw r)) ?_
  walk_at "rg"
  simp only [ol_sumM]
  have hs := sz_sum _ (tops_sz hr cs)
  have hlen : (topsD (lcmD 1 qs) qs).length = qs.length := by unfold topsD; rw [List.length_map]
  rw [hlen] at hs
  refine (hm (k + 2) _ _ (by omega) (by omega) (hs.up (by omega)) (cs.up (by omega))).wk hM rfl ?_
  rw [tops_sum c0 qs (lcmD_dvd qs 1).2]
  exact ⟨rfl, rfl⟩
/-- products side by side, added -/
def dotQ (qs ps : List Rat) : Rat := ((qs.zip ps).map fun p => p.1 * p.2).sum
theorem top_one {c : Nat} (hc : 0 < c) {q : Rat} (h : q.den ∣ c) : Rat.divInt (q.num * ((c : Int).fdiv q.den)) c = q := by
  have := tops_sum hc [q] fun p hp => by rw [List.mem_singleton.mp hp]; exact h
  simpa [topsD, Rat.add_zero] using this
theorem dot_sum {c d : Nat} (hc : 0 < c) (hd : 0 < d) : ∀ qs ps : List Rat, (∀ q ∈ qs, q.den ∣ c) → (∀ q ∈ ps, q.den ∣ d) → Rat.divInt (((topsD c qs).zip (topsD d ps)).map fun p => p.1 * p.2).sum ((c : Int) * d) = dotQ qs ps
  | [], _, _, _ => by simp [topsD, dotQ]
  | _ :: _, [], _, _ => by simp [topsD, dotQ]
  | q :: qs, p :: ps, h, h' => by
    have ih := dot_sum hc hd qs ps (fun x hx => h x (List.mem_cons_of_mem _ hx)) fun x hx => h' x (List.mem_cons_of_mem _ hx)
    have e0 : (c : Int) * d ≠ 0 := Int.mul_ne_zero (by omega) (by omega)
    have e1 : Rat.divInt ((q.num * ((c : Int).fdiv q.den)) * (p.num * ((d : Int).fdiv p.den))) ((c : Int) * d) = q * p := by
      rw [← Rat.divInt_mul_divInt, top_one hc (h q List.mem_cons_self), top_one hd (h' p List.mem_cons_self)]
    show Rat.divInt ((q.num * ((c : Int).fdiv q.den)) * (p.num * ((d : Int).fdiv p.den)) + (((topsD c qs).zip (topsD d ps)).map fun p => p.1 * p.2).sum) ((c : Int) * d) = q * p + dotQ qs ps
    rw [← ih, ← e1, Rat.divInt_add_divInt _ _ e0 e0, ← Int.add_mul, Rat.divInt_mul_right e0]
theorem zip_ints : ∀ a b : List Int, zip2W (a.map W.int) (b.map W.int) = (a.zip b).map fun p => .tup [.int p.1, .int p.2]
  | [], _ => by simp [zip2W]
  | _ :: _, [] => by simp [zip2W]
  | x :: a, y :: b => by simp [zip2W, zip_ints a b]
def dotB (cl md : Nat) : Sms := (.cons (.asg (.tup (.cons (.name 2) (.cons (.name 3) .nil))) (.call cl (.cons (.var 0) .nil))) (.cons (.asg (.tup (.cons (.name 4) (.cons (.name 5) .nil))) (.call cl (.cons (.var 1) .nil))) (.cons (.ret (.call md (.cons (.blt .sum (.cons (.comp (.bin .mul (.var 6) (.var 7)) (.tup (.cons (.name 6) (.cons (.name 7) .nil))) (.zip2 (.var 2) (.var 4)) .nil [6, 7]) .nil)) (.cons (.bin .mul (.var 3) (.var 5)) .nil)))) .nil)))
theorem dot_at {f k cl md : Nat} {w u : W} {ws us : List W} {qs rs : List Rat} (hq : L[f]? = some ⟨⟨2, 8, false, dotB cl md⟩, D, ps, N⟩) (h1 : IsCleared L con fuel cl) (hm : IsMade L con fuel 1 md) (hw : w = .lst ws ∨ w = .tup ws) (r : Row ws qs) (hr : Rzs 100 qs) (hl : qs.length ≤ 20) (hu : u = .lst us ∨ u = .tup us) (r' : Row us rs) (hr' : Rzs 100 rs) (hl' : rs.length ≤ 20) : Fn L con fuel (k + 3) f [w, u] (· = rq (dotQ qs rs)) := by
  refine at_def hq rfl fun M hM hf hcon hfr => ?_
  simp only [dotB]
  have c0 := lcmD_pos qs 1 (by omega)
  have d0 := lcmD_pos rs 1 (by omega)
  have cs : Sz 2001 ((lcmD 1 qs : Nat) : Int) := (lcmD_sz qs 1 1 hr (by unfold Sz; decide)).up (by omega)
  have ds : Sz 2001 ((lcmD 1 rs : Nat) : Int) := (lcmD_sz rs 1 1 hr' (by unfold Sz; decide)).up (by omega)
  have h3 := dot_sum c0 d0 qs rs (lcmD_dvd qs 1).2 (lcmD_dvd rs 1).2
  have t1 := tops_sz hr cs
  have t2 := tops_sz hr' ds
  have l1 : (topsD (lcmD 1 qs) qs).length = qs.length := by unfold topsD; rw [List.length_map]
  walk_at "rg"
  refine (h1 k w ws qs hw r hr hl).wk hM (fr1 (row_free hw r)) ?_
  walk_at "rg"
  refine (h1 k u us rs hu r' hr' hl').wk hM (fr1 (row_free hu r')) ?_
  walk_at "rg"
  rw [seq_lst, seq_lst, zip_ints]
  generalize topsD (lcmD 1 qs) qs = A at *
  generalize topsD (lcmD 1 rs) rs = B at *
  have z1 : (A.zip B).map (fun p => W.tup [.int p.1, .int p.2]) = ((A.zip B).map fun p => (W.tup [.int p.1, .int p.2], W.int (p.1 * p.2))).map (·.1) := by rw [List.map_map]; rfl
  have z2 : ((A.zip B).map fun p => (W.tup [.int p.1, .int p.2], W.int (p.1 * p.2))).map (·.2) = ((A.zip B).map fun p => p.1 * p.2).map W.int := by rw [List.map_map, List.map_map]; rfl
  have zl : (A.zip B).length ≤ 20 := by rw [List.length_zip]; omega
  rw [z1]
  refine wg_zip _ (fun p hp => ?_) (by rw [List.length_map]; omega) ?_
  · obtain ⟨q, hq', rfl⟩ := List.mem_map.mp hp
    obtain ⟨m1, m2⟩ := List.of_mem_zip hq'
    walk_at "rg"
    exact (t1 _ m1).mulOk (t2 _ m2) (by decide)
  · rw [z2]
    simp only [ol_sumM]
    walk_at "rg"
    have hs := sz_sum ((A.zip B).map fun p => p.1 * p.2) (n := 4202) fun x hx => by
      obtain ⟨q, hq', rfl⟩ := List.mem_map.mp hx
      obtain ⟨m1, m2⟩ := List.of_mem_zip hq'
      exact (t1 _ m1).mul (t2 _ m2)
    rw [List.length_map] at hs
    refine ⟨cs.mulOk ds (by decide), ?_⟩
    refine (hm (k + 2) _ _ (by omega) (Int.mul_ne_zero (by omega) (by omega)) (hs.up (by omega)) ((cs.mul ds).up (by omega))).eq hM ?_
    rw [h3]
    exact ⟨rfl, rfl⟩
end
end Rf

namespace Rf
local macro_rules | `(tactic| walk_at "rg") => `(tactic| simp only [wp_var, wp_cst, wp_con, wp_edict, wps_nil, wps_cons, wp_tup, wp_lst, wp_bin, wp_cmp, wp_sub, wp_neg, wp_nott, wp_andd, wp_orr, wp_ite, wp_blt, wp_isi, wp_call, wp_callS, wp_callK, wp_meth, wp_thaw, wp_slc, wp_intPart, Wt,
  wrs_nil, wrs_cons, wr_asg, wr_expr, wr_ret, wr_retN, wr_if, wr_cont, wr_brk, wr_pass, wr_never, wp_name, wp_ttup, wp_tnil, wp_tcons, wp_tsub, wi_seq, wi_enum, wi_range1, wi_range2, wi_zip2, wr_for, wp_comp, wts_nil, wts_one, wp_cat, wk_free, wp_repr, wr_freeze, om_append, om_extend, lo_loc, Option.isSome_some, List.append_nil,
  ob_add, ob_sub, ob_mul, ob_fdiv, ob_mod, ob_pow, oc_lt, oc_le, oc_gt, oc_ge, oc_eqI, oc_neI, oc_isN, oc_notN, ot_bl, ot_int, ol_abs, ol_max, ol_min, ol_intI, ol_intB, ol_gcd, ol_lenT, ol_lenL, ol_lenR,
  oi_non_bool, oi_non_int, oi_non_str, oi_non_tuple, oi_non_list, oi_non_dict, oi_bl_bool, oi_bl_int, oi_bl_str, oi_bl_tuple, oi_bl_list, oi_bl_dict, oi_int_bool, oi_int_int, oi_int_str, oi_int_tuple, oi_int_list, oi_int_dict, oi_str_bool, oi_str_int, oi_str_str, oi_str_tuple, oi_str_list, oi_str_dict, oi_tup_bool, oi_tup_int, oi_tup_str, oi_tup_tuple, oi_tup_list, oi_tup_dict, oi_lst_bool, oi_lst_int, oi_lst_str, oi_lst_tuple, oi_lst_list, oi_lst_dict, oi_edict_bool, oi_edict_int, oi_edict_str, oi_edict_tuple, oi_edict_list, oi_edict_dict, os_tup, os_lst, os_ro, os_loc, oset_loc, at0, at1, at2, at3, ix_two0, ix_two1, wipeE, arrange, fresh, W.free, W.frees, rq_free, os_rq0, os_rq1,  Bool.and_true, Bool.and_self,
  List.getElem?_cons_zero, List.getElem?_cons_succ, Option.join_some, wo_some, wo_none, List.set_cons_zero, List.set_cons_succ, List.length_cons, List.length_nil, List.map_cons, List.map_nil, List.cons_append, List.nil_append, List.replicate_succ, List.replicate_zero, Nat.reduceSub, Nat.reduceAdd, Nat.reduceLT, true_and, and_true, if_true, decide_eq_true_eq, Bool.false_eq_true, Bool.true_eq_false, if_false, ite_true, ite_false, not_true_eq_false, not_false_eq_true, Bool.not_true, Bool.not_false, Bool.not_eq_true', decide_eq_false_iff_not, Bool.not_eq_eq_eq_not, Int.cast_ofNat_Int, Int.reduceEq, Int.reduceLT, Int.reduceLE, Int.reduceNe, reduceCtorEq])
theorem rz_add {n1 n2 : Nat} {p q : Rat} (r : Rz n1 p) (r' : Rz n2 q) : Rz (n1 + n2 + 1) (p + q) := by
  obtain ⟨_, s2, s3, s4⟩ := rz_mul r r'
  rw [← add_low]
  exact .of (Int.mul_ne_zero (den_ne p) (den_ne q)) (s3.add s4) (s2.up (by omega))
theorem rz_times {n1 n2 : Nat} {p q : Rat} (r : Rz n1 p) (r' : Rz n2 q) : Rz (n1 + n2) (p * q) := by
  obtain ⟨s1, s2, _, _⟩ := rz_mul r r'
  rw [← mul_low]
  exact .of (Int.mul_ne_zero (den_ne p) (den_ne q)) s1 s2
theorem rz_zero : Rz 1 (0 : Rat) := by constructor <;> (unfold Sz; decide)
section
variable {L : List Dt} {con : Nat → W} {fuel : Nat} {D : He.DefD} {ps N : List PySem.Str}
def lawSumB (pl : Nat) : Sms := (.cons (.asg (.name 1) (.tup (.cons (.cst (.int 0)) (.cons (.cst (.int 1)) .nil)))) (.cons (.for_ (.name 2) (.seq (.var 0)) (.cons (.asg (.name 1) (.call pl (.cons (.var 1) (.cons (.var 2) .nil)))) .nil)) (.cons (.ret (.var 1)) .nil)))
theorem lawSum_at {f k pl md : Nat} {qs : List Rat} {D1 : He.DefD} {p1 n1 : List PySem.Str} (hq : L[f]? = some ⟨⟨1, 3, false, lawSumB pl⟩, D, ps, N⟩) (h1 : L[pl]? = some ⟨⟨2, 2, false, plusB md⟩, D1, p1, n1⟩) (hm : IsMade L con fuel 1 md) (hr : Rzs 200 qs) (hl : qs.length ≤ 20) : Fn L con fuel (k + 3) f [.lst (qs.map rq)] (· = rq qs.sum) := by
  refine at_def hq rfl fun M hM hf hcon hfr => ?_
  simp only [lawSumB]
  walk_at "rg"
  simp only [seq_lst]
  refine ⟨size_ok (by omega), ?_⟩
  refine wr_forI (I := fun xs env S => ∃ (s : Rat) (n : Nat) (rs : List Rat) (t : Option W), xs = rs.map rq ∧ env = [some (.lst (qs.map rq)), some (rq s), t] ∧ s + rs.sum = qs.sum ∧ Rz n s ∧ n + 201 * rs.length ≤ 5000 ∧ Rzs 200 rs) (fun x xs env S ⟨s, n, rs, t, e1, e2, e3, e4, e5, e6⟩ => ?_) (fun env S ⟨s, n, rs, t, e1, e2, e3, e4, e5, e6⟩ => ?_) _ _ _ ⟨0, 1, qs, none, rfl, rfl, Rat.zero_add _, rz_zero, by omega, hr⟩
  · cases rs with
    | nil => cases e1
    | cons q rs =>
      simp only [List.map_cons, List.cons.injEq] at e1
      obtain ⟨rfl, rfl⟩ := e1
      subst e2
      have hq' := e6 q List.mem_cons_self
      rw [List.length_cons] at e5
      walk_at "rg"
      refine (plus_at (k := k) h1 hm e4 hq' (by omega)).eq hM ?_
      refine ⟨_, n + 200 + 1, rs, _, rfl, rfl, ?_, rz_add e4 hq', by omega, fun p hp => e6 p (List.mem_cons_of_mem _ hp)⟩
      rw [← e3]
      show s + q + rs.sum = s + (q + rs.sum)
      rw [Rat.add_assoc]
  · cases rs with
    | cons q rs => cases e1
    | nil =>
      subst e2
      walk_at "rg"
      have : s = qs.sum := by rw [← e3]; exact (Rat.add_zero s).symm
      rw [← this]
end
end Rf

namespace Rf
local macro_rules | `(tactic| walk_at "rg") => `(tactic| simp only [wp_var, wp_cst, wp_con, wp_edict, wps_nil, wps_cons, wp_tup, wp_lst, wp_bin, wp_cmp, wp_sub, wp_neg, wp_nott, wp_andd, wp_orr, wp_ite, wp_blt, wp_isi, wp_call, wp_callS, wp_callK, wp_meth, wp_thaw, wp_slc, wp_intPart, Wt,
  wrs_nil, wrs_cons, wr_asg, wr_expr, wr_ret, wr_retN, wr_if, wr_cont, wr_brk, wr_pass, wr_never, wp_name, wp_ttup, wp_tnil, wp_tcons, wp_tsub, wi_seq, wi_enum, wi_range1, wi_range2, wi_zip2, wr_for, wp_comp, wts_nil, wts_one, wp_cat, wk_free, wp_repr, wr_freeze, om_append, om_extend, lo_loc, Option.isSome_some, List.append_nil,
  ob_add, ob_sub, ob_mul, ob_fdiv, ob_mod, ob_pow, oc_lt, oc_le, oc_gt, oc_ge, oc_eqI, oc_neI, oc_isN, oc_notN, ot_bl, ot_int, ol_abs, ol_max, ol_min, ol_intI, ol_intB, ol_gcd, ol_lenT, ol_lenL, ol_lenR,
  oi_non_bool, oi_non_int, oi_non_str, oi_non_tuple, oi_non_list, oi_non_dict, oi_bl_bool, oi_bl_int, oi_bl_str, oi_bl_tuple, oi_bl_list, oi_bl_dict, oi_int_bool, oi_int_int, oi_int_str, oi_int_tuple, oi_int_list, oi_int_dict, oi_str_bool, oi_str_int, oi_str_str, oi_str_tuple, oi_str_list, oi_str_dict, oi_tup_bool, oi_tup_int, oi_tup_str, oi_tup_tuple, oi_tup_list, oi_tup_dict, oi_lst_bool, oi_lst_int, oi_lst_str, oi_lst_tuple, oi_lst_list, oi_lst_dict, oi_edict_bool, oi_edict_int, oi_edict_str, oi_edict_tuple, oi_edict_list, oi_edict_dict, os_tup, os_lst, os_ro, os_loc, oset_loc, at0, at1, at2, at3, ix_two0, ix_two1, wipeE, arrange, fresh, W.free, W.frees, rq_free, os_rq0, os_rq1,  Bool.and_true, Bool.and_self,
  List.getElem?_cons_zero, List.getElem?_cons_succ, Option.join_some, wo_some, wo_none, List.set_cons_zero, List.set_cons_succ, List.length_cons, List.length_nil, List.map_cons, List.map_nil, List.cons_append, List.nil_append, List.replicate_succ, List.replicate_zero, Nat.reduceSub, Nat.reduceAdd, Nat.reduceLT, true_and, and_true, if_true, decide_eq_true_eq, Bool.false_eq_true, Bool.true_eq_false, if_false, ite_true, ite_false, not_true_eq_false, not_false_eq_true, Bool.not_true, Bool.not_false, Bool.not_eq_true', decide_eq_false_iff_not, Bool.not_eq_eq_eq_not, Int.cast_ofNat_Int, Int.reduceEq, Int.reduceLT, Int.reduceLE, Int.reduceNe, reduceCtorEq])
theorem cut1 {α : Type} (x : α) (xs : List α) : cutG (x :: xs) (some 1) none = xs := by
  unfold cutG
  have e1 : HT.sIx (x :: xs).length 0 (some 1) = 1 := by
    simp [HT.sIx]
  have e2 : HT.sIx (x :: xs).length (x :: xs).length none = (x :: xs).length := by
    simp [HT.sIx]
  rw [e1, e2]
  simp
/-- the first least (side -1) or greatest (side 1) -/
def firstQ (side : Int) (q : Rat) (rs : List Rat) : Rat := rs.foldl (fun f x => if cmpR x f = side then x else f) q
theorem firstQ_rz {n : Nat} {side : Int} : ∀ (rs : List Rat) (q : Rat), Rz n q → Rzs n rs → Rz n (firstQ side q rs)
  | [], q, h, _ => h
  | x :: rs, q, h, hr => by
    show Rz n (firstQ side (if cmpR x q = side then x else q) rs)
    refine firstQ_rz rs _ ?_ fun p hp => hr p (List.mem_cons_of_mem _ hp)
    split
    · exact hr x List.mem_cons_self
    · exact h
section
variable {L : List Dt} {con : Nat → W} {fuel : Nat} {D : He.DefD} {ps N : List PySem.Str}
def firstB (pr cp : Nat) : Sms := (.cons (.asg (.name 2) (.call pr (.cons (.sub (.var 0) (.cst (.int 0))) .nil))) (.cons (.for_ (.name 3) (.seq (.slc (.var 0) true (.cst (.int 1)) false .omit)) (.cons (.asg (.name 4) (.call pr (.cons (.var 3) .nil))) (.cons (.asg (.name 2) (.ite (.cmp .eq (.call cp (.cons (.var 4) (.cons (.var 2) .nil))) (.var 1)) (.var 4) (.var 2))) .nil))) (.cons (.ret (.var 2)) .nil)))
theorem first_at {f k pr cp : Nat} {w : W} {x : W} {ws : List W} {q : Rat} {qs : List Rat} {side : Int} {D1 D2 : He.DefD} {p1 n1 p2 n2 : List PySem.Str} (hq : L[f]? = some ⟨⟨2, 5, false, firstB pr cp⟩, D, ps, N⟩) (h1 : L[pr]? = some ⟨⟨1, 1, false, pairB⟩, D1, p1, n1⟩) (h2 : L[cp]? = some ⟨⟨2, 4, false, compB⟩, D2, p2, n2⟩)
    (hw : w = .lst (x :: ws) ∨ w = .tup (x :: ws)) (hx : IsNum x q) (r : Row ws qs) (hr0 : Rz 100 q) (hr : Rzs 100 qs) : Fn L con fuel (k + 2) f [w, .int side] (· = rq (firstQ side q qs)) := by
  refine at_def hq rfl fun M hM hf hcon hfr => ?_
  simp only [firstB]
  walk_at "rg"
  have s0 : ∀ S : Store, subW S w (.int 0) = some x := fun S => by rcases hw with rfl | rfl <;> exact at0
  simp only [s0, wo_some]
  refine (pair_at (k := k) h1 hx).wk hM (fr1 hx.free) ?_
  have sl : ∀ S : Store, ∃ u, slcW S w (some 1) none = some u ∧ seqOf u = some ws := fun S => by
    rcases hw with rfl | rfl
    · exact ⟨.lst ws, by show some (W.lst (cutG (x :: ws) (some 1) none)) = _; rw [cut1], rfl⟩
    · refine ⟨.tup ws, ?_, rfl⟩
      show (if HT.sIx (x :: ws).length 0 (some 1) = 0 ∧ HT.sIx (x :: ws).length (x :: ws).length none = (x :: ws).length then none else some (W.tup (cutG (x :: ws) (some 1) none))) = _
      rw [cut1, if_neg]
      intro z
      have : HT.sIx (x :: ws).length 0 (some 1) = 1 := by simp [HT.sIx]
      omega
  obtain ⟨u0, g1, g2⟩ := sl []
  simp only [if_true, wp_intPart, wp_cst, if_false, Bool.false_eq_true, wp_someI, g1, g2, wo_some]
  refine wr_forI (I := fun xs env S => ∃ (s : Rat) (rs : List Rat) (t u : Option W), Row xs rs ∧ env = [some w, some (.int side), some (rq s), t, u] ∧ firstQ side s rs = firstQ side q qs ∧ Rz 100 s ∧ Rzs 100 rs) (fun y xs env S ⟨s, rs, t, u, e1, e2, e3, e4, e5⟩ => ?_) (fun env S ⟨s, rs, t, u, e1, e2, e3, e4, e5⟩ => ?_) _ _ _ ⟨q, qs, none, none, r, rfl, rfl, hr0, hr⟩
  · cases e1 with
    | @cons _ p _ rs hy rr =>
      subst e2
      have hp := e5 p List.mem_cons_self
      walk_at "rg"
      refine (pair_at (k := k) h1 hy).wk hM (fr1 hy.free) ?_
      refine (comp_at (k := k) h2 hp e4 (by omega)).wk hM rfl ?_
      walk_at "rg"
      have tl : Rzs 100 rs := fun z hz => e5 z (List.mem_cons_of_mem _ hz)
      by_cases hc : cmpR p s = side
      · rw [if_pos hc]
        refine ⟨p, rs, _, _, rr, rfl, ?_, hp, tl⟩
        rw [← e3]; show _ = firstQ side (if cmpR p s = side then p else s) rs; rw [if_pos hc]
      · rw [if_neg hc]
        refine ⟨s, rs, _, _, rr, rfl, ?_, e4, tl⟩
        rw [← e3]; show _ = firstQ side (if cmpR p s = side then p else s) rs; rw [if_neg hc]
  · cases e1 with
    | nil =>
      subst e2
      walk_at "rg"
      rw [← e3]; rfl
end
end Rf

namespace Rf
local macro_rules | `(tactic| walk_at "rg") => `(tactic| simp only [wp_var, wp_cst, wp_con, wp_edict, wps_nil, wps_cons, wp_tup, wp_lst, wp_bin, wp_cmp, wp_sub, wp_neg, wp_nott, wp_andd, wp_orr, wp_ite, wp_blt, wp_isi, wp_call, wp_callS, wp_callK, wp_meth, wp_thaw, wp_slc, wp_intPart, Wt,
  wrs_nil, wrs_cons, wr_asg, wr_expr, wr_ret, wr_retN, wr_if, wr_cont, wr_brk, wr_pass, wr_never, wp_name, wp_ttup, wp_tnil, wp_tcons, wp_tsub, wi_seq, wi_enum, wi_range1, wi_range2, wi_zip2, wr_for, wp_comp, wts_nil, wts_one, wp_cat, wk_free, wp_repr, wr_freeze, om_append, om_extend, lo_loc, Option.isSome_some, List.append_nil,
  ob_add, ob_sub, ob_mul, ob_fdiv, ob_mod, ob_pow, oc_lt, oc_le, oc_gt, oc_ge, oc_eqI, oc_neI, oc_isN, oc_notN, ot_bl, ot_int, ol_abs, ol_max, ol_min, ol_intI, ol_intB, ol_gcd, ol_lenT, ol_lenL, ol_lenR,
  oi_non_bool, oi_non_int, oi_non_str, oi_non_tuple, oi_non_list, oi_non_dict, oi_bl_bool, oi_bl_int, oi_bl_str, oi_bl_tuple, oi_bl_list, oi_bl_dict, oi_int_bool, oi_int_int, oi_int_str, oi_int_tuple, oi_int_list, oi_int_dict, oi_str_bool, oi_str_int, oi_str_str, oi_str_tuple, oi_str_list, oi_str_dict, oi_tup_bool, oi_tup_int, oi_tup_str, oi_tup_tuple, oi_tup_list, oi_tup_dict, oi_lst_bool, oi_lst_int, oi_lst_str, oi_lst_tuple, oi_lst_list, oi_lst_dict, oi_edict_bool, oi_edict_int, oi_edict_str, oi_edict_tuple, oi_edict_list, oi_edict_dict, os_tup, os_lst, os_ro, os_loc, oset_loc, at0, at1, at2, at3, ix_two0, ix_two1, wipeE, arrange, fresh, W.free, W.frees, rq_free, os_rq0, os_rq1,  Bool.and_true, Bool.and_self,
  List.getElem?_cons_zero, List.getElem?_cons_succ, Option.join_some, wo_some, wo_none, List.set_cons_zero, List.set_cons_succ, List.length_cons, List.length_nil, List.map_cons, List.map_nil, List.cons_append, List.nil_append, List.replicate_succ, List.replicate_zero, Nat.reduceSub, Nat.reduceAdd, Nat.reduceLT, true_and, and_true, if_true, decide_eq_true_eq, Bool.false_eq_true, Bool.true_eq_false, if_false, ite_true, ite_false, not_true_eq_false, not_false_eq_true, Bool.not_true, Bool.not_false, Bool.not_eq_true', decide_eq_false_iff_not, Bool.not_eq_eq_eq_not, Int.cast_ofNat_Int, Int.reduceEq, Int.reduceLT, Int.reduceLE, Int.reduceNe, reduceCtorEq])
theorem cmp_less (x f : Rat) : (cmpR x f = -1 ↔ x < f) ∧ (cmpR x f = 1 ↔ f < x) := by
  have as : x < f → ¬ f < x := fun h h' => by
    rw [Rat.lt_iff] at h h'; omega
  unfold cmpR
  by_cases h : x < f
  · have := as h
    simp [h, this]
  · by_cases h' : f < x
    · simp [h, h']
    · simp [h, h']
section
variable {L : List Dt} {con : Nat → W} {fuel : Nat} {D : He.DefD} {ps N : List PySem.Str}
def lawLeastB (ls : Nat) : Sms := (.cons (.asg (.name 2) (.sub (.var 0) (.cst (.int 0)))) (.cons (.for_ (.name 3) (.seq (.slc (.var 0) true (.cst (.int 1)) false .omit)) (.cons (.iff (.orr (.andd (.cmp .lt (.var 1) (.cst (.int 0))) (.call ls (.cons (.var 3) (.cons (.var 2) .nil)))) (.andd (.cmp .gt (.var 1) (.cst (.int 0))) (.call ls (.cons (.var 2) (.cons (.var 3) .nil))))) (.cons (.asg (.name 2) (.var 3)) .nil) .nil) .nil)) (.cons (.ret (.var 2)) .nil)))
theorem lawLeast_at {f k ls : Nat} {q : Rat} {qs : List Rat} {side : Int} {D1 : He.DefD} {p1 n1 : List PySem.Str} (hq : L[f]? = some ⟨⟨2, 4, false, lawLeastB ls⟩, D, ps, N⟩) (h1 : L[ls]? = some ⟨⟨2, 2, false, lessB⟩, D1, p1, n1⟩) (hs : side = -1 ∨ side = 1) (hr0 : Rz 100 q) (hr : Rzs 100 qs) : Fn L con fuel (k + 2) f [.lst (rq q :: qs.map rq), .int side] (· = rq (firstQ side q qs)) := by
  refine at_def hq rfl fun M hM hf hcon hfr => ?_
  simp only [lawLeastB]
  walk_at "rg"
  have sl : ∀ S : Store, slcW S (.lst (rq q :: qs.map rq)) (some 1) none = some (.lst (qs.map rq)) := fun S => by show some (W.lst (cutG (rq q :: qs.map rq) (some 1) none)) = _; rw [cut1]
  simp only [if_true, wp_intPart, wp_cst, if_false, Bool.false_eq_true, wp_someI, sl, wo_some, seq_lst]
  refine wr_forI (I := fun xs env S => ∃ (s : Rat) (rs : List Rat) (t : Option W), xs = rs.map rq ∧ env = [some (.lst (rq q :: qs.map rq)), some (.int side), some (rq s), t] ∧ firstQ side s rs = firstQ side q qs ∧ Rz 100 s ∧ Rzs 100 rs) (fun y xs env S ⟨s, rs, t, e1, e2, e3, e4, e5⟩ => ?_) (fun env S ⟨s, rs, t, e1, e2, e3, e4, e5⟩ => ?_) _ _ _ ⟨q, qs, none, rfl, rfl, rfl, hr0, hr⟩
  · cases rs with
    | nil => cases e1
    | cons p rs =>
      simp only [List.map_cons, List.cons.injEq] at e1
      obtain ⟨rfl, rfl⟩ := e1
      subst e2
      have hp := e5 p List.mem_cons_self
      have tl : Rzs 100 rs := fun z hz => e5 z (List.mem_cons_of_mem _ hz)
      have yes : cmpR p s = side → firstQ side p rs = firstQ side q qs := fun hc => by rw [← e3]; show _ = firstQ side (if cmpR p s = side then p else s) rs; rw [if_pos hc]
      have no : ¬ cmpR p s = side → firstQ side s rs = firstQ side q qs := fun hc => by rw [← e3]; show _ = firstQ side (if cmpR p s = side then p else s) rs; rw [if_neg hc]
      rcases hs with rfl | rfl
      · walk_at "rg"
        refine (less_at (k := k) h1 hp e4 (by omega)).eq hM ?_
        walk_at "rg"
        by_cases hc : p < s
        · simp only [if_pos hc]
          exact ⟨p, rs, _, rfl, rfl, yes ((cmp_less p s).1.mpr hc), hp, tl⟩
        · simp only [if_neg hc]
          exact ⟨s, rs, _, rfl, rfl, no fun z => hc ((cmp_less p s).1.mp z), e4, tl⟩
      · walk_at "rg"
        refine (less_at (k := k) h1 e4 hp (by omega)).eq hM ?_
        walk_at "rg"
        by_cases hc : s < p
        · simp only [if_pos hc]
          exact ⟨p, rs, _, rfl, rfl, yes ((cmp_less p s).2.mpr hc), hp, tl⟩
        · simp only [if_neg hc]
          exact ⟨s, rs, _, rfl, rfl, no fun z => hc ((cmp_less p s).2.mp z), e4, tl⟩
  · cases rs with
    | cons p rs => cases e1
    | nil =>
      subst e2
      walk_at "rg"
      rw [← e3]; rfl
end
end Rf

namespace Rf
local macro_rules | `(tactic| walk_at "rg") => `(tactic| simp only [wp_var, wp_cst, wp_con, wp_edict, wps_nil, wps_cons, wp_tup, wp_lst, wp_bin, wp_cmp, wp_sub, wp_neg, wp_nott, wp_andd, wp_orr, wp_ite, wp_blt, wp_isi, wp_call, wp_callS, wp_callK, wp_meth, wp_thaw, wp_slc, wp_intPart, Wt,
  wrs_nil, wrs_cons, wr_asg, wr_expr, wr_ret, wr_retN, wr_if, wr_cont, wr_brk, wr_pass, wr_never, wp_name, wp_ttup, wp_tnil, wp_tcons, wp_tsub, wi_seq, wi_enum, wi_range1, wi_range2, wi_zip2, wr_for, wp_comp, wts_nil, wts_one, wp_cat, wk_free, wp_repr, wr_freeze, om_append, om_extend, lo_loc, Option.isSome_some, List.append_nil,
  ob_add, ob_sub, ob_mul, ob_fdiv, ob_mod, ob_pow, oc_lt, oc_le, oc_gt, oc_ge, oc_eqI, oc_neI, oc_isN, oc_notN, ot_bl, ot_int, ol_abs, ol_max, ol_min, ol_intI, ol_intB, ol_gcd, ol_lenT, ol_lenL, ol_lenR,
  oi_non_bool, oi_non_int, oi_non_str, oi_non_tuple, oi_non_list, oi_non_dict, oi_bl_bool, oi_bl_int, oi_bl_str, oi_bl_tuple, oi_bl_list, oi_bl_dict, oi_int_bool, oi_int_int, oi_int_str, oi_int_tuple, oi_int_list, oi_int_dict, oi_str_bool, oi_str_int, oi_str_str, oi_str_tuple, oi_str_list, oi_str_dict, oi_tup_bool, oi_tup_int, oi_tup_str, oi_tup_tuple, oi_tup_list, oi_tup_dict, oi_lst_bool, oi_lst_int, oi_lst_str, oi_lst_tuple, oi_lst_list, oi_lst_dict, oi_edict_bool, oi_edict_int, oi_edict_str, oi_edict_tuple, oi_edict_list, oi_edict_dict, os_tup, os_lst, os_ro, os_loc, oset_loc, at0, at1, at2, at3, ix_two0, ix_two1, wipeE, arrange, fresh, W.free, W.frees, rq_free, os_rq0, os_rq1,  Bool.and_true, Bool.and_self,
  List.getElem?_cons_zero, List.getElem?_cons_succ, Option.join_some, wo_some, wo_none, List.set_cons_zero, List.set_cons_succ, List.length_cons, List.length_nil, List.map_cons, List.map_nil, List.cons_append, List.nil_append, List.replicate_succ, List.replicate_zero, Nat.reduceSub, Nat.reduceAdd, Nat.reduceLT, true_and, and_true, if_true, decide_eq_true_eq, Bool.false_eq_true, Bool.true_eq_false, if_false, ite_true, ite_false, not_true_eq_false, not_false_eq_true, Bool.not_true, Bool.not_false, Bool.not_eq_true', decide_eq_false_iff_not, Bool.not_eq_eq_eq_not, Int.cast_ofNat_Int, Int.reduceEq, Int.reduceLT, Int.reduceLE, Int.reduceNe, reduceCtorEq])
theorem oi_lt_lst {xs : List W} {Q : Bool → Prop} : Wo (isiW (.lst xs) ["list", "tuple"]) Q = Q true := rfl
theorem oi_lt_tup {xs : List W} {Q : Bool → Prop} : Wo (isiW (.tup xs) ["list", "tuple"]) Q = Q true := rfl
section
variable {L : List Dt} {con : Nat → W} {fuel : Nat} {D : He.DefD} {ps N : List PySem.Str}
def isListB : Sms := (.cons (.ret (.isi (.var 0) ["list", "tuple"])) .nil)
theorem isList_at {f k : Nat} {w : W} {ws : List W} (hq : L[f]? = some ⟨⟨1, 1, false, isListB⟩, D, ps, N⟩) (hw : w = .lst ws ∨ w = .tup ws) : Fn L con fuel (k + 1) f [w] (· = .bl true) := by
  refine at_def hq rfl fun M hM hf hcon hfr => ?_
  simp only [isListB]
  rcases hw with rfl | rfl
  · walk_at "rg"
    simp only [oi_lt_lst]
  · walk_at "rg"
    simp only [oi_lt_tup]
def isRowB (il im : Nat) : Sms := (.cons (.ret (.andd (.call il (.cons (.var 0) .nil)) (.blt .all (.cons (.comp (.call im (.cons (.var 1) .nil)) (.name 1) (.seq (.var 0)) .nil [1]) .nil)))) .nil)
theorem isRow_at {f k il im : Nat} {w : W} {ws : List W} {qs : List Rat} {D1 : He.DefD} {p1 n1 : List PySem.Str} (hq : L[f]? = some ⟨⟨1, 2, false, isRowB il im⟩, D, ps, N⟩) (h1 : L[il]? = some ⟨⟨1, 1, false, isListB⟩, D1, p1, n1⟩) (h2 : ∀ k w q, IsNum w q → Fn L con fuel (k + 3) im [w] (· = .bl true)) (hw : w = .lst ws ∨ w = .tup ws) (r : Row ws qs) (hl : qs.length ≤ 20) : Fn L con fuel (k + 4) f [w] (· = .bl true) := by
  refine at_def hq rfl fun M hM hf hcon hfr => ?_
  simp only [isRowB]
  have es : seqOf w = some ws := by rcases hw with rfl | rfl <;> rfl
  walk_at "rg"
  refine (isList_at (k := k + 2) h1 hw).wk hM (fr1 (row_free hw r)) ?_
  walk_at "rg"
  rw [es, wo_some]
  refine wg_row (fun _ => .bl true) r (fun w q _ hn => ?_) (by omega) ?_
  · walk_at "rg"
    exact (h2 k w q hn).wk hM (fr1 hn.free) ⟨rfl, rfl⟩
  · exact ol_allT (fun x hx => by obtain ⟨_, _, e⟩ := List.mem_map.mp hx; exact e.symm) ⟨rfl, rfl⟩
end
end Rf

namespace Rf
/-! ### branches -/
/-- what simp does not look into -/
structure Dm {α : Sort u} (a : α) : Type where
def hold {α : Sort u} (a : α) (d : Dm a) : α := a
theorem hold_eq {α : Sort u} {a : α} {d : Dm a} : hold a d = a := rfl
theorem hold_q {α : Type} {Q : α → Store → Prop} {d : Dm Q} {w : α} {S : Store} : hold Q d w S = Q w S := rfl
def Br (k : Bool) (A B : Prop) : Prop := if k = true then A else B
theorem br_split {k : Bool} {A B : Prop} (h1 : k = true → A) (h2 : k = false → B) : Br k A B := by
  unfold Br; cases k with
  | true => rw [if_pos rfl]; exact h1 rfl
  | false => rw [if_neg Bool.false_ne_true]; exact h2 rfl
theorem br_dec {p : Prop} [Decidable p] {A B : Prop} (h1 : p → A) (h2 : ¬ p → B) : Br (decide p) A B := br_split (fun h => h1 (of_decide_eq_true h)) fun h => h2 (of_decide_eq_false h)
theorem br_t {A B : Prop} : Br true A B = A := if_pos rfl
theorem br_f {A B : Prop} : Br false A B = B := if_neg Bool.false_ne_true
theorem br_th {A B : Prop} {d : Dm A} : Br true (hold A d) B = A := if_pos rfl
theorem br_fh {A B : Prop} {d : Dm B} : Br false A (hold B d) = B := if_neg Bool.false_ne_true
theorem brs {k : Bool} {A B : Prop} {d : Dm A} {d' : Dm B} (h1 : k = true → A) (h2 : k = false → B) : Br k (hold A d) (hold B d') := br_split h1 h2
theorem brd {p : Prop} [Decidable p] {A B : Prop} {d : Dm A} {d' : Dm B} (h1 : p → A) (h2 : ¬ p → B) : Br (decide p) (hold A d) (hold B d') := br_dec h1 h2
theorem br_not {k : Bool} {A B : Prop} : Br (!k) A B = Br k B A := by cases k <;> rfl
section
variable {M : Sem} {env : Env} {S : Store} {Q : W → Store → Prop}
theorem x_call {f : Nat} {args : Xps} : Wp (evE M (.call f args) env S) Q = Wp (evEs M args env S) fun ds S1 => Wk M f ds S1 (hold Q ⟨⟩) := wp_call
theorem x_callS {f : Nat} {args : Xps} : Wp (evE M (.callS f args) env S) Q = Wp (evEs M args env S) fun ds S1 => Wc M f ds S1 (hold Q ⟨⟩) := wp_callS
theorem x_callK {f : Nat} {args kargs : Xps} {ks : List Nat} : Wp (evE M (.callK f args ks kargs) env S) Q = Wp (evEs M args env S) fun ds S1 => Wp (evEs M kargs env S1) fun es S2 => Wo (arrange ks (ds ++ es)) fun qs => Wk M f qs S2 (hold Q ⟨⟩) := wp_callK
theorem x_comp {elt : Xp} {tg : Xt} {it : Xi} {ifs : Xps} {own : List Nat} : Wp (evE M (.comp elt tg it ifs own) env S) Q = Wp (evI M it env S) fun xs S1 => Wg M elt tg ifs own env xs [] S1 (hold (fun ys S2 => Q (.lst ys) S2) ⟨⟩) := wp_comp
theorem x_for {t : Xt} {it : Xi} {b : Sms} {D : Dn} : Wr (evS M (.for_ t it b) env S) D = Wp (evI M it env S) fun xs S1 => Wr (forGo (fun x env S => asgT M t x env S) (fun env S => evSs M b env S) xs env S1) (hold D ⟨⟩) := wr_for
theorem h_nx {D : Dn} {d : Dm D} : (hold D d).nx = D.nx := rfl
theorem h_rt {D : Dn} {d : Dm D} : (hold D d).rt = D.rt := rfl
theorem h_bk {D : Dn} {d : Dm D} : (hold D d).bk = D.bk := rfl
theorem h_ct {D : Dn} {d : Dm D} : (hold D d).ct = D.ct := rfl
theorem x_forNil {D : Dn} {tg : W → Env → Store → Option (Env × Store)} {body : Env → Store → Option Rs} : Wr (forGo tg body [] env S) D = D.nx env S := rfl
theorem x_t {e : Xp} {Q : Bool → Store → Prop} : Wt M e env S Q = Wp (evE M e env S) fun x S1 => Wo (truW S1 x) fun b => Q b S1 := rfl
theorem x_andd {a b : Xp} : Wp (evE M (.andd a b) env S) Q = Wp (evE M a env S) fun x S1 => Wo (truW S1 x) fun k => Br k (hold (Wp (evE M b env S1) Q) ⟨⟩) (hold (Q x S1) ⟨⟩) := wp_andd
theorem x_orr {a b : Xp} : Wp (evE M (.orr a b) env S) Q = Wp (evE M a env S) fun x S1 => Wo (truW S1 x) fun k => Br k (hold (Q x S1) ⟨⟩) (hold (Wp (evE M b env S1) Q) ⟨⟩) := wp_orr
theorem x_ite {t a b : Xp} : Wp (evE M (.ite t a b) env S) Q = Wt M t env S fun k S1 => Br k (hold (Wp (evE M a env S1) Q) ⟨⟩) (hold (Wp (evE M b env S1) Q) ⟨⟩) := wp_ite
theorem x_if {t : Xp} {a b : Sms} {D : Dn} : Wr (evS M (.iff t a b) env S) D = Wt M t env S fun k S1 => Br k (hold (Wr (evSs M a env S1) D) ⟨⟩) (hold (Wr (evSs M b env S1) D) ⟨⟩) := wr_if
theorem x_chain {op op' : Cop} {a b c : Xp} : Wp (evE M (.chain op op' a b c) env S) Q = Wp (evE M a env S) fun x S1 => Wp (evE M b env S1) fun y S2 => Wo (cmpW S2 op x y) fun k => (match k with | .bl r => Br r (hold (Wp (evE M c env S2) fun z S3 => Wo (cmpW S3 op' y z) fun q => Q q S3) ⟨⟩) (hold (Q (.bl false) S2) ⟨⟩) | _ => False) := by
  rw [evE]
  cases evE M a env S with
  | none => rfl
  | some p =>
    obtain ⟨x, S1⟩ := p
    dsimp only [Wp]
    cases evE M b env S1 with
    | none => rfl
    | some p =>
      obtain ⟨y, S2⟩ := p
      dsimp only
      cases cmpW S2 op x y with
      | none => rfl
      | some k =>
        cases k with
        | bl r =>
          cases r with
          | false => rfl
          | true =>
            dsimp only [Wo]
            rw [br_th]
            cases evE M c env S2 with
            | none => rfl
            | some p => obtain ⟨z, S3⟩ := p; exact wp_of_map
        | _ => rfl
theorem wp_ext {α : Type} {o : Option (α × Store)} {Q Q' : α → Store → Prop} (h : ∀ x S, Q x S = Q' x S) : Wp o Q = Wp o Q' := by
  cases o with
  | none => rfl
  | some p => exact h _ _
theorem x_slc0 {a lo hi : Xp} : Wp (evE M (.slc a false lo false hi) env S) Q = Wp (evE M a env S) fun x S1 => Wo (slcW S1 x none none) fun z => Q z S1 := by
  rw [wp_slc]; rfl
theorem x_slc1 {a lo hi : Xp} : Wp (evE M (.slc a true lo false hi) env S) Q = Wp (evE M a env S) fun x S1 => Wp (evE M lo env S1) fun l S2 => (match l with | .int i => Wo (slcW S2 x (some i) none) fun z => Q z S2 | _ => False) := by
  rw [wp_slc]
  exact wp_ext fun x S1 => (congrArg (fun o => Wp o _) (if_pos rfl)).trans (wp_intPart.trans (wp_ext fun l S2 => by cases l <;> rfl))
theorem x_slc2 {a lo hi : Xp} : Wp (evE M (.slc a false lo true hi) env S) Q = Wp (evE M a env S) fun x S1 => Wp (evE M hi env S1) fun l S2 => (match l with | .int i => Wo (slcW S2 x none (some i)) fun z => Q z S2 | _ => False) := by
  rw [wp_slc]
  refine wp_ext fun x S1 => ?_
  show Wp (if true = true then intPart (evE M hi env S1) else some (none, S1)) _ = _
  exact (congrArg (fun o => Wp o _) (if_pos rfl)).trans (wp_intPart.trans (wp_ext fun l S2 => by cases l <;> rfl))
theorem x_slc3 {a lo hi : Xp} : Wp (evE M (.slc a true lo true hi) env S) Q = Wp (evE M a env S) fun x S1 => Wp (evE M lo env S1) fun l S2 => (match l with | .int i => Wp (evE M hi env S2) fun h S3 => (match h with | .int j => Wo (slcW S3 x (some i) (some j)) fun z => Q z S3 | _ => False) | _ => False) := by
  rw [wp_slc]
  refine wp_ext fun x S1 => (congrArg (fun o => Wp o _) (if_pos rfl)).trans (wp_intPart.trans (wp_ext fun l S2 => ?_))
  cases l with
  | int i =>
    show Wp (if true = true then intPart (evE M hi env S2) else some (none, S2)) _ = _
    exact (congrArg (fun o => Wp o _) (if_pos rfl)).trans (wp_intPart.trans (wp_ext fun h S3 => by cases h <;> rfl))
  | _ => rfl
theorem x_v0 {w : W} {r : Env} : Wp (evE M (.var 0) (some w :: r) S) Q = Q w S := by rw [wp_var]; rfl
theorem x_n0 {y : Option W} {w : W} {r : Env} {Q : Env → Store → Prop} : Wp (asgT M (.name 0) w (y :: r) S) Q = Q (some w :: r) S := by rw [wp_name]; exact propext ⟨fun h => h.2, fun h => ⟨by simp only [List.length_cons]; omega, h⟩⟩
theorem x_v1 {x0 : Option W} {w : W} {r : Env} : Wp (evE M (.var 1) (x0 :: some w :: r) S) Q = Q w S := by rw [wp_var]; rfl
theorem x_n1 {x0 : Option W} {y : Option W} {w : W} {r : Env} {Q : Env → Store → Prop} : Wp (asgT M (.name 1) w (x0 :: y :: r) S) Q = Q (x0 :: some w :: r) S := by rw [wp_name]; exact propext ⟨fun h => h.2, fun h => ⟨by simp only [List.length_cons]; omega, h⟩⟩
theorem x_v2 {x0 x1 : Option W} {w : W} {r : Env} : Wp (evE M (.var 2) (x0 :: x1 :: some w :: r) S) Q = Q w S := by rw [wp_var]; rfl
theorem x_n2 {x0 x1 : Option W} {y : Option W} {w : W} {r : Env} {Q : Env → Store → Prop} : Wp (asgT M (.name 2) w (x0 :: x1 :: y :: r) S) Q = Q (x0 :: x1 :: some w :: r) S := by rw [wp_name]; exact propext ⟨fun h => h.2, fun h => ⟨by simp only [List.length_cons]; omega, h⟩⟩
theorem x_v3 {x0 x1 x2 : Option W} {w : W} {r : Env} : Wp (evE M (.var 3) (x0 :: x1 :: x2 :: some w :: r) S) Q = Q w S := by rw [wp_var]; rfl
theorem x_n3 {x0 x1 x2 : Option W} {y : Option W} {w : W} {r : Env} {Q : Env → Store → Prop} : Wp (asgT M (.name 3) w (x0 :: x1 :: x2 :: y :: r) S) Q = Q (x0 :: x1 :: x2 :: some w :: r) S := by rw [wp_name]; exact propext ⟨fun h => h.2, fun h => ⟨by simp only [List.length_cons]; omega, h⟩⟩
theorem x_v4 {x0 x1 x2 x3 : Option W} {w : W} {r : Env} : Wp (evE M (.var 4) (x0 :: x1 :: x2 :: x3 :: some w :: r) S) Q = Q w S := by rw [wp_var]; rfl
theorem x_n4 {x0 x1 x2 x3 : Option W} {y : Option W} {w : W} {r : Env} {Q : Env → Store → Prop} : Wp (asgT M (.name 4) w (x0 :: x1 :: x2 :: x3 :: y :: r) S) Q = Q (x0 :: x1 :: x2 :: x3 :: some w :: r) S := by rw [wp_name]; exact propext ⟨fun h => h.2, fun h => ⟨by simp only [List.length_cons]; omega, h⟩⟩
theorem x_v5 {x0 x1 x2 x3 x4 : Option W} {w : W} {r : Env} : Wp (evE M (.var 5) (x0 :: x1 :: x2 :: x3 :: x4 :: some w :: r) S) Q = Q w S := by rw [wp_var]; rfl
theorem x_n5 {x0 x1 x2 x3 x4 : Option W} {y : Option W} {w : W} {r : Env} {Q : Env → Store → Prop} : Wp (asgT M (.name 5) w (x0 :: x1 :: x2 :: x3 :: x4 :: y :: r) S) Q = Q (x0 :: x1 :: x2 :: x3 :: x4 :: some w :: r) S := by rw [wp_name]; exact propext ⟨fun h => h.2, fun h => ⟨by simp only [List.length_cons]; omega, h⟩⟩
theorem x_v6 {x0 x1 x2 x3 x4 x5 : Option W} {w : W} {r : Env} : Wp (evE M (.var 6) (x0 :: x1 :: x2 :: x3 :: x4 :: x5 :: some w :: r) S) Q = Q w S := by rw [wp_var]; rfl
theorem x_n6 {x0 x1 x2 x3 x4 x5 : Option W} {y : Option W} {w : W} {r : Env} {Q : Env → Store → Prop} : Wp (asgT M (.name 6) w (x0 :: x1 :: x2 :: x3 :: x4 :: x5 :: y :: r) S) Q = Q (x0 :: x1 :: x2 :: x3 :: x4 :: x5 :: some w :: r) S := by rw [wp_name]; exact propext ⟨fun h => h.2, fun h => ⟨by simp only [List.length_cons]; omega, h⟩⟩
theorem x_v7 {x0 x1 x2 x3 x4 x5 x6 : Option W} {w : W} {r : Env} : Wp (evE M (.var 7) (x0 :: x1 :: x2 :: x3 :: x4 :: x5 :: x6 :: some w :: r) S) Q = Q w S := by rw [wp_var]; rfl
theorem x_n7 {x0 x1 x2 x3 x4 x5 x6 : Option W} {y : Option W} {w : W} {r : Env} {Q : Env → Store → Prop} : Wp (asgT M (.name 7) w (x0 :: x1 :: x2 :: x3 :: x4 :: x5 :: x6 :: y :: r) S) Q = Q (x0 :: x1 :: x2 :: x3 :: x4 :: x5 :: x6 :: some w :: r) S := by rw [wp_name]; exact propext ⟨fun h => h.2, fun h => ⟨by simp only [List.length_cons]; omega, h⟩⟩
theorem x_v8 {x0 x1 x2 x3 x4 x5 x6 x7 : Option W} {w : W} {r : Env} : Wp (evE M (.var 8) (x0 :: x1 :: x2 :: x3 :: x4 :: x5 :: x6 :: x7 :: some w :: r) S) Q = Q w S := by rw [wp_var]; rfl
theorem x_n8 {x0 x1 x2 x3 x4 x5 x6 x7 : Option W} {y : Option W} {w : W} {r : Env} {Q : Env → Store → Prop} : Wp (asgT M (.name 8) w (x0 :: x1 :: x2 :: x3 :: x4 :: x5 :: x6 :: x7 :: y :: r) S) Q = Q (x0 :: x1 :: x2 :: x3 :: x4 :: x5 :: x6 :: x7 :: some w :: r) S := by rw [wp_name]; exact propext ⟨fun h => h.2, fun h => ⟨by simp only [List.length_cons]; omega, h⟩⟩
theorem x_v9 {x0 x1 x2 x3 x4 x5 x6 x7 x8 : Option W} {w : W} {r : Env} : Wp (evE M (.var 9) (x0 :: x1 :: x2 :: x3 :: x4 :: x5 :: x6 :: x7 :: x8 :: some w :: r) S) Q = Q w S := by rw [wp_var]; rfl
theorem x_n9 {x0 x1 x2 x3 x4 x5 x6 x7 x8 : Option W} {y : Option W} {w : W} {r : Env} {Q : Env → Store → Prop} : Wp (asgT M (.name 9) w (x0 :: x1 :: x2 :: x3 :: x4 :: x5 :: x6 :: x7 :: x8 :: y :: r) S) Q = Q (x0 :: x1 :: x2 :: x3 :: x4 :: x5 :: x6 :: x7 :: x8 :: some w :: r) S := by rw [wp_name]; exact propext ⟨fun h => h.2, fun h => ⟨by simp only [List.length_cons]; omega, h⟩⟩
theorem x_v10 {x0 x1 x2 x3 x4 x5 x6 x7 x8 x9 : Option W} {w : W} {r : Env} : Wp (evE M (.var 10) (x0 :: x1 :: x2 :: x3 :: x4 :: x5 :: x6 :: x7 :: x8 :: x9 :: some w :: r) S) Q = Q w S := by rw [wp_var]; rfl
theorem x_n10 {x0 x1 x2 x3 x4 x5 x6 x7 x8 x9 : Option W} {y : Option W} {w : W} {r : Env} {Q : Env → Store → Prop} : Wp (asgT M (.name 10) w (x0 :: x1 :: x2 :: x3 :: x4 :: x5 :: x6 :: x7 :: x8 :: x9 :: y :: r) S) Q = Q (x0 :: x1 :: x2 :: x3 :: x4 :: x5 :: x6 :: x7 :: x8 :: x9 :: some w :: r) S := by rw [wp_name]; exact propext ⟨fun h => h.2, fun h => ⟨by simp only [List.length_cons]; omega, h⟩⟩
theorem x_v11 {x0 x1 x2 x3 x4 x5 x6 x7 x8 x9 x10 : Option W} {w : W} {r : Env} : Wp (evE M (.var 11) (x0 :: x1 :: x2 :: x3 :: x4 :: x5 :: x6 :: x7 :: x8 :: x9 :: x10 :: some w :: r) S) Q = Q w S := by rw [wp_var]; rfl
theorem x_n11 {x0 x1 x2 x3 x4 x5 x6 x7 x8 x9 x10 : Option W} {y : Option W} {w : W} {r : Env} {Q : Env → Store → Prop} : Wp (asgT M (.name 11) w (x0 :: x1 :: x2 :: x3 :: x4 :: x5 :: x6 :: x7 :: x8 :: x9 :: x10 :: y :: r) S) Q = Q (x0 :: x1 :: x2 :: x3 :: x4 :: x5 :: x6 :: x7 :: x8 :: x9 :: x10 :: some w :: r) S := by rw [wp_name]; exact propext ⟨fun h => h.2, fun h => ⟨by simp only [List.length_cons]; omega, h⟩⟩
theorem x_v12 {x0 x1 x2 x3 x4 x5 x6 x7 x8 x9 x10 x11 : Option W} {w : W} {r : Env} : Wp (evE M (.var 12) (x0 :: x1 :: x2 :: x3 :: x4 :: x5 :: x6 :: x7 :: x8 :: x9 :: x10 :: x11 :: some w :: r) S) Q = Q w S := by rw [wp_var]; rfl
theorem x_n12 {x0 x1 x2 x3 x4 x5 x6 x7 x8 x9 x10 x11 : Option W} {y : Option W} {w : W} {r : Env} {Q : Env → Store → Prop} : Wp (asgT M (.name 12) w (x0 :: x1 :: x2 :: x3 :: x4 :: x5 :: x6 :: x7 :: x8 :: x9 :: x10 :: x11 :: y :: r) S) Q = Q (x0 :: x1 :: x2 :: x3 :: x4 :: x5 :: x6 :: x7 :: x8 :: x9 :: x10 :: x11 :: some w :: r) S := by rw [wp_name]; exact propext ⟨fun h => h.2, fun h => ⟨by simp only [List.length_cons]; omega, h⟩⟩
theorem x_v13 {x0 x1 x2 x3 x4 x5 x6 x7 x8 x9 x10 x11 x12 : Option W} {w : W} {r : Env} : Wp (evE M (.var 13) (x0 :: x1 :: x2 :: x3 :: x4 :: x5 :: x6 :: x7 :: x8 :: x9 :: x10 :: x11 :: x12 :: some w :: r) S) Q = Q w S := by rw [wp_var]; rfl
theorem x_n13 {x0 x1 x2 x3 x4 x5 x6 x7 x8 x9 x10 x11 x12 : Option W} {y : Option W} {w : W} {r : Env} {Q : Env → Store → Prop} : Wp (asgT M (.name 13) w (x0 :: x1 :: x2 :: x3 :: x4 :: x5 :: x6 :: x7 :: x8 :: x9 :: x10 :: x11 :: x12 :: y :: r) S) Q = Q (x0 :: x1 :: x2 :: x3 :: x4 :: x5 :: x6 :: x7 :: x8 :: x9 :: x10 :: x11 :: x12 :: some w :: r) S := by rw [wp_name]; exact propext ⟨fun h => h.2, fun h => ⟨by simp only [List.length_cons]; omega, h⟩⟩
theorem x_v14 {x0 x1 x2 x3 x4 x5 x6 x7 x8 x9 x10 x11 x12 x13 : Option W} {w : W} {r : Env} : Wp (evE M (.var 14) (x0 :: x1 :: x2 :: x3 :: x4 :: x5 :: x6 :: x7 :: x8 :: x9 :: x10 :: x11 :: x12 :: x13 :: some w :: r) S) Q = Q w S := by rw [wp_var]; rfl
theorem x_n14 {x0 x1 x2 x3 x4 x5 x6 x7 x8 x9 x10 x11 x12 x13 : Option W} {y : Option W} {w : W} {r : Env} {Q : Env → Store → Prop} : Wp (asgT M (.name 14) w (x0 :: x1 :: x2 :: x3 :: x4 :: x5 :: x6 :: x7 :: x8 :: x9 :: x10 :: x11 :: x12 :: x13 :: y :: r) S) Q = Q (x0 :: x1 :: x2 :: x3 :: x4 :: x5 :: x6 :: x7 :: x8 :: x9 :: x10 :: x11 :: x12 :: x13 :: some w :: r) S := by rw [wp_name]; exact propext ⟨fun h => h.2, fun h => ⟨by simp only [List.length_cons]; omega, h⟩⟩
theorem x_v15 {x0 x1 x2 x3 x4 x5 x6 x7 x8 x9 x10 x11 x12 x13 x14 : Option W} {w : W} {r : Env} : Wp (evE M (.var 15) (x0 :: x1 :: x2 :: x3 :: x4 :: x5 :: x6 :: x7 :: x8 :: x9 :: x10 :: x11 :: x12 :: x13 :: x14 :: some w :: r) S) Q = Q w S := by rw [wp_var]; rfl
theorem x_n15 {x0 x1 x2 x3 x4 x5 x6 x7 x8 x9 x10 x11 x12 x13 x14 : Option W} {y : Option W} {w : W} {r : Env} {Q : Env → Store → Prop} : Wp (asgT M (.name 15) w (x0 :: x1 :: x2 :: x3 :: x4 :: x5 :: x6 :: x7 :: x8 :: x9 :: x10 :: x11 :: x12 :: x13 :: x14 :: y :: r) S) Q = Q (x0 :: x1 :: x2 :: x3 :: x4 :: x5 :: x6 :: x7 :: x8 :: x9 :: x10 :: x11 :: x12 :: x13 :: x14 :: some w :: r) S := by rw [wp_name]; exact propext ⟨fun h => h.2, fun h => ⟨by simp only [List.length_cons]; omega, h⟩⟩
theorem x_v16 {x0 x1 x2 x3 x4 x5 x6 x7 x8 x9 x10 x11 x12 x13 x14 x15 : Option W} {w : W} {r : Env} : Wp (evE M (.var 16) (x0 :: x1 :: x2 :: x3 :: x4 :: x5 :: x6 :: x7 :: x8 :: x9 :: x10 :: x11 :: x12 :: x13 :: x14 :: x15 :: some w :: r) S) Q = Q w S := by rw [wp_var]; rfl
theorem x_n16 {x0 x1 x2 x3 x4 x5 x6 x7 x8 x9 x10 x11 x12 x13 x14 x15 : Option W} {y : Option W} {w : W} {r : Env} {Q : Env → Store → Prop} : Wp (asgT M (.name 16) w (x0 :: x1 :: x2 :: x3 :: x4 :: x5 :: x6 :: x7 :: x8 :: x9 :: x10 :: x11 :: x12 :: x13 :: x14 :: x15 :: y :: r) S) Q = Q (x0 :: x1 :: x2 :: x3 :: x4 :: x5 :: x6 :: x7 :: x8 :: x9 :: x10 :: x11 :: x12 :: x13 :: x14 :: x15 :: some w :: r) S := by rw [wp_name]; exact propext ⟨fun h => h.2, fun h => ⟨by simp only [List.length_cons]; omega, h⟩⟩
theorem x_v17 {x0 x1 x2 x3 x4 x5 x6 x7 x8 x9 x10 x11 x12 x13 x14 x15 x16 : Option W} {w : W} {r : Env} : Wp (evE M (.var 17) (x0 :: x1 :: x2 :: x3 :: x4 :: x5 :: x6 :: x7 :: x8 :: x9 :: x10 :: x11 :: x12 :: x13 :: x14 :: x15 :: x16 :: some w :: r) S) Q = Q w S := by rw [wp_var]; rfl
theorem x_n17 {x0 x1 x2 x3 x4 x5 x6 x7 x8 x9 x10 x11 x12 x13 x14 x15 x16 : Option W} {y : Option W} {w : W} {r : Env} {Q : Env → Store → Prop} : Wp (asgT M (.name 17) w (x0 :: x1 :: x2 :: x3 :: x4 :: x5 :: x6 :: x7 :: x8 :: x9 :: x10 :: x11 :: x12 :: x13 :: x14 :: x15 :: x16 :: y :: r) S) Q = Q (x0 :: x1 :: x2 :: x3 :: x4 :: x5 :: x6 :: x7 :: x8 :: x9 :: x10 :: x11 :: x12 :: x13 :: x14 :: x15 :: x16 :: some w :: r) S := by rw [wp_name]; exact propext ⟨fun h => h.2, fun h => ⟨by simp only [List.length_cons]; omega, h⟩⟩
theorem x_v18 {x0 x1 x2 x3 x4 x5 x6 x7 x8 x9 x10 x11 x12 x13 x14 x15 x16 x17 : Option W} {w : W} {r : Env} : Wp (evE M (.var 18) (x0 :: x1 :: x2 :: x3 :: x4 :: x5 :: x6 :: x7 :: x8 :: x9 :: x10 :: x11 :: x12 :: x13 :: x14 :: x15 :: x16 :: x17 :: some w :: r) S) Q = Q w S := by rw [wp_var]; rfl
theorem x_n18 {x0 x1 x2 x3 x4 x5 x6 x7 x8 x9 x10 x11 x12 x13 x14 x15 x16 x17 : Option W} {y : Option W} {w : W} {r : Env} {Q : Env → Store → Prop} : Wp (asgT M (.name 18) w (x0 :: x1 :: x2 :: x3 :: x4 :: x5 :: x6 :: x7 :: x8 :: x9 :: x10 :: x11 :: x12 :: x13 :: x14 :: x15 :: x16 :: x17 :: y :: r) S) Q = Q (x0 :: x1 :: x2 :: x3 :: x4 :: x5 :: x6 :: x7 :: x8 :: x9 :: x10 :: x11 :: x12 :: x13 :: x14 :: x15 :: x16 :: x17 :: some w :: r) S := by rw [wp_name]; exact propext ⟨fun h => h.2, fun h => ⟨by simp only [List.length_cons]; omega, h⟩⟩
theorem x_v19 {x0 x1 x2 x3 x4 x5 x6 x7 x8 x9 x10 x11 x12 x13 x14 x15 x16 x17 x18 : Option W} {w : W} {r : Env} : Wp (evE M (.var 19) (x0 :: x1 :: x2 :: x3 :: x4 :: x5 :: x6 :: x7 :: x8 :: x9 :: x10 :: x11 :: x12 :: x13 :: x14 :: x15 :: x16 :: x17 :: x18 :: some w :: r) S) Q = Q w S := by rw [wp_var]; rfl
theorem x_n19 {x0 x1 x2 x3 x4 x5 x6 x7 x8 x9 x10 x11 x12 x13 x14 x15 x16 x17 x18 : Option W} {y : Option W} {w : W} {r : Env} {Q : Env → Store → Prop} : Wp (asgT M (.name 19) w (x0 :: x1 :: x2 :: x3 :: x4 :: x5 :: x6 :: x7 :: x8 :: x9 :: x10 :: x11 :: x12 :: x13 :: x14 :: x15 :: x16 :: x17 :: x18 :: y :: r) S) Q = Q (x0 :: x1 :: x2 :: x3 :: x4 :: x5 :: x6 :: x7 :: x8 :: x9 :: x10 :: x11 :: x12 :: x13 :: x14 :: x15 :: x16 :: x17 :: x18 :: some w :: r) S := by rw [wp_name]; exact propext ⟨fun h => h.2, fun h => ⟨by simp only [List.length_cons]; omega, h⟩⟩
theorem x_sg0 {xs : List W} {T : Store} {k : Int} {Q : W → Prop} : Wo (subW (some xs :: T) (.loc 0) (.int k)) Q = Wo (L2.atI xs k) Q := os_loc
theorem x_ss0 {xs : List W} {T : Store} {k : Int} {v : W} {Q : Store → Prop} : Wo (setW (some xs :: T) (.loc 0) (.int k) v) Q = Wo (L2.ixN xs.length k) fun j => Q (some (xs.set j v) :: T) := oset_loc
theorem x_ap0 {xs : List W} {T : Store} {x : W} : Wp (methW (some xs :: T) .append (.loc 0) [x]) Q = (xs.length < PySem.sizeLine ∧ Q .non (some (xs ++ [x]) :: T)) := om_append
theorem x_ex0 {xs ys : List W} {T : Store} : Wp (methW (some xs :: T) .extend (.loc 0) [.lst ys]) Q = (xs.length + ys.length ≤ PySem.sizeLine ∧ Q .non (some (xs ++ ys) :: T)) := om_extend
theorem x_rv0 {xs : List W} {T : Store} : Wp (methW (some xs :: T) .reverse (.loc 0) []) Q = Q .non (some xs.reverse :: T) := rfl
theorem x_cl0 {xs : List W} {T : Store} : Wp (methW (some xs :: T) .clear (.loc 0) []) Q = Q .non (some [] :: T) := rfl
theorem x_lo0 {xs : List W} {T : Store} : listOf (some xs :: T) (.loc 0) = some xs := rfl
theorem x_io0 {xs : List W} {T : Store} {Q : W → Prop} : Wo (bltW (some xs :: T) .len [.loc 0]) Q = Q (.int xs.length) := rfl
theorem x_fz0 {xs : List W} {T : Store} : Wp (evE M (.frz (.cst (.loc 0))) env (some xs :: T)) Q = Q (.lst xs) (none :: T) := by rw [evE, evE]; rfl
theorem x_sg1 {s0 : Option (List W)} {xs : List W} {T : Store} {k : Int} {Q : W → Prop} : Wo (subW (s0 :: some xs :: T) (.loc 1) (.int k)) Q = Wo (L2.atI xs k) Q := os_loc
theorem x_ss1 {s0 : Option (List W)} {xs : List W} {T : Store} {k : Int} {v : W} {Q : Store → Prop} : Wo (setW (s0 :: some xs :: T) (.loc 1) (.int k) v) Q = Wo (L2.ixN xs.length k) fun j => Q (s0 :: some (xs.set j v) :: T) := oset_loc
theorem x_ap1 {s0 : Option (List W)} {xs : List W} {T : Store} {x : W} : Wp (methW (s0 :: some xs :: T) .append (.loc 1) [x]) Q = (xs.length < PySem.sizeLine ∧ Q .non (s0 :: some (xs ++ [x]) :: T)) := om_append
theorem x_ex1 {s0 : Option (List W)} {xs ys : List W} {T : Store} : Wp (methW (s0 :: some xs :: T) .extend (.loc 1) [.lst ys]) Q = (xs.length + ys.length ≤ PySem.sizeLine ∧ Q .non (s0 :: some (xs ++ ys) :: T)) := om_extend
theorem x_rv1 {s0 : Option (List W)} {xs : List W} {T : Store} : Wp (methW (s0 :: some xs :: T) .reverse (.loc 1) []) Q = Q .non (s0 :: some xs.reverse :: T) := rfl
theorem x_cl1 {s0 : Option (List W)} {xs : List W} {T : Store} : Wp (methW (s0 :: some xs :: T) .clear (.loc 1) []) Q = Q .non (s0 :: some [] :: T) := rfl
theorem x_lo1 {s0 : Option (List W)} {xs : List W} {T : Store} : listOf (s0 :: some xs :: T) (.loc 1) = some xs := rfl
theorem x_io1 {s0 : Option (List W)} {xs : List W} {T : Store} {Q : W → Prop} : Wo (bltW (s0 :: some xs :: T) .len [.loc 1]) Q = Q (.int xs.length) := rfl
theorem x_fz1 {s0 : Option (List W)} {xs : List W} {T : Store} : Wp (evE M (.frz (.cst (.loc 1))) env (s0 :: some xs :: T)) Q = Q (.lst xs) (s0 :: none :: T) := by rw [evE, evE]; rfl
theorem x_sg2 {s0 s1 : Option (List W)} {xs : List W} {T : Store} {k : Int} {Q : W → Prop} : Wo (subW (s0 :: s1 :: some xs :: T) (.loc 2) (.int k)) Q = Wo (L2.atI xs k) Q := os_loc
theorem x_ss2 {s0 s1 : Option (List W)} {xs : List W} {T : Store} {k : Int} {v : W} {Q : Store → Prop} : Wo (setW (s0 :: s1 :: some xs :: T) (.loc 2) (.int k) v) Q = Wo (L2.ixN xs.length k) fun j => Q (s0 :: s1 :: some (xs.set j v) :: T) := oset_loc
theorem x_ap2 {s0 s1 : Option (List W)} {xs : List W} {T : Store} {x : W} : Wp (methW (s0 :: s1 :: some xs :: T) .append (.loc 2) [x]) Q = (xs.length < PySem.sizeLine ∧ Q .non (s0 :: s1 :: some (xs ++ [x]) :: T)) := om_append
theorem x_ex2 {s0 s1 : Option (List W)} {xs ys : List W} {T : Store} : Wp (methW (s0 :: s1 :: some xs :: T) .extend (.loc 2) [.lst ys]) Q = (xs.length + ys.length ≤ PySem.sizeLine ∧ Q .non (s0 :: s1 :: some (xs ++ ys) :: T)) := om_extend
theorem x_rv2 {s0 s1 : Option (List W)} {xs : List W} {T : Store} : Wp (methW (s0 :: s1 :: some xs :: T) .reverse (.loc 2) []) Q = Q .non (s0 :: s1 :: some xs.reverse :: T) := rfl
theorem x_cl2 {s0 s1 : Option (List W)} {xs : List W} {T : Store} : Wp (methW (s0 :: s1 :: some xs :: T) .clear (.loc 2) []) Q = Q .non (s0 :: s1 :: some [] :: T) := rfl
theorem x_lo2 {s0 s1 : Option (List W)} {xs : List W} {T : Store} : listOf (s0 :: s1 :: some xs :: T) (.loc 2) = some xs := rfl
theorem x_io2 {s0 s1 : Option (List W)} {xs : List W} {T : Store} {Q : W → Prop} : Wo (bltW (s0 :: s1 :: some xs :: T) .len [.loc 2]) Q = Q (.int xs.length) := rfl
theorem x_fz2 {s0 s1 : Option (List W)} {xs : List W} {T : Store} : Wp (evE M (.frz (.cst (.loc 2))) env (s0 :: s1 :: some xs :: T)) Q = Q (.lst xs) (s0 :: s1 :: none :: T) := by rw [evE, evE]; rfl
theorem x_sg3 {s0 s1 s2 : Option (List W)} {xs : List W} {T : Store} {k : Int} {Q : W → Prop} : Wo (subW (s0 :: s1 :: s2 :: some xs :: T) (.loc 3) (.int k)) Q = Wo (L2.atI xs k) Q := os_loc
theorem x_ss3 {s0 s1 s2 : Option (List W)} {xs : List W} {T : Store} {k : Int} {v : W} {Q : Store → Prop} : Wo (setW (s0 :: s1 :: s2 :: some xs :: T) (.loc 3) (.int k) v) Q = Wo (L2.ixN xs.length k) fun j => Q (s0 :: s1 :: s2 :: some (xs.set j v) :: T) := oset_loc
theorem x_ap3 {s0 s1 s2 : Option (List W)} {xs : List W} {T : Store} {x : W} : Wp (methW (s0 :: s1 :: s2 :: some xs :: T) .append (.loc 3) [x]) Q = (xs.length < PySem.sizeLine ∧ Q .non (s0 :: s1 :: s2 :: some (xs ++ [x]) :: T)) := om_append
theorem x_ex3 {s0 s1 s2 : Option (List W)} {xs ys : List W} {T : Store} : Wp (methW (s0 :: s1 :: s2 :: some xs :: T) .extend (.loc 3) [.lst ys]) Q = (xs.length + ys.length ≤ PySem.sizeLine ∧ Q .non (s0 :: s1 :: s2 :: some (xs ++ ys) :: T)) := om_extend
theorem x_rv3 {s0 s1 s2 : Option (List W)} {xs : List W} {T : Store} : Wp (methW (s0 :: s1 :: s2 :: some xs :: T) .reverse (.loc 3) []) Q = Q .non (s0 :: s1 :: s2 :: some xs.reverse :: T) := rfl
theorem x_cl3 {s0 s1 s2 : Option (List W)} {xs : List W} {T : Store} : Wp (methW (s0 :: s1 :: s2 :: some xs :: T) .clear (.loc 3) []) Q = Q .non (s0 :: s1 :: s2 :: some [] :: T) := rfl
theorem x_lo3 {s0 s1 s2 : Option (List W)} {xs : List W} {T : Store} : listOf (s0 :: s1 :: s2 :: some xs :: T) (.loc 3) = some xs := rfl
theorem x_io3 {s0 s1 s2 : Option (List W)} {xs : List W} {T : Store} {Q : W → Prop} : Wo (bltW (s0 :: s1 :: s2 :: some xs :: T) .len [.loc 3]) Q = Q (.int xs.length) := rfl
theorem x_fz3 {s0 s1 s2 : Option (List W)} {xs : List W} {T : Store} : Wp (evE M (.frz (.cst (.loc 3))) env (s0 :: s1 :: s2 :: some xs :: T)) Q = Q (.lst xs) (s0 :: s1 :: s2 :: none :: T) := by rw [evE, evE]; rfl
theorem x_sg4 {s0 s1 s2 s3 : Option (List W)} {xs : List W} {T : Store} {k : Int} {Q : W → Prop} : Wo (subW (s0 :: s1 :: s2 :: s3 :: some xs :: T) (.loc 4) (.int k)) Q = Wo (L2.atI xs k) Q := os_loc
theorem x_ss4 {s0 s1 s2 s3 : Option (List W)} {xs : List W} {T : Store} {k : Int} {v : W} {Q : Store → Prop} : Wo (setW (s0 :: s1 :: s2 :: s3 :: some xs :: T) (.loc 4) (.int k) v) Q = Wo (L2.ixN xs.length k) fun j => Q (s0 :: s1 :: s2 :: s3 :: some (xs.set j v) :: T) := oset_loc
theorem x_ap4 {s0 s1 s2 s3 : Option (List W)} {xs : List W} {T : Store} {x : W} : Wp (methW (s0 :: s1 :: s2 :: s3 :: some xs :: T) .append (.loc 4) [x]) Q = (xs.length < PySem.sizeLine ∧ Q .non (s0 :: s1 :: s2 :: s3 :: some (xs ++ [x]) :: T)) := om_append
theorem x_ex4 {s0 s1 s2 s3 : Option (List W)} {xs ys : List W} {T : Store} : Wp (methW (s0 :: s1 :: s2 :: s3 :: some xs :: T) .extend (.loc 4) [.lst ys]) Q = (xs.length + ys.length ≤ PySem.sizeLine ∧ Q .non (s0 :: s1 :: s2 :: s3 :: some (xs ++ ys) :: T)) := om_extend
theorem x_rv4 {s0 s1 s2 s3 : Option (List W)} {xs : List W} {T : Store} : Wp (methW (s0 :: s1 :: s2 :: s3 :: some xs :: T) .reverse (.loc 4) []) Q = Q .non (s0 :: s1 :: s2 :: s3 :: some xs.reverse :: T) := rfl
theorem x_cl4 {s0 s1 s2 s3 : Option (List W)} {xs : List W} {T : Store} : Wp (methW (s0 :: s1 :: s2 :: s3 :: some xs :: T) .clear (.loc 4) []) Q = Q .non (s0 :: s1 :: s2 :: s3 :: some [] :: T) := rfl
theorem x_lo4 {s0 s1 s2 s3 : Option (List W)} {xs : List W} {T : Store} : listOf (s0 :: s1 :: s2 :: s3 :: some xs :: T) (.loc 4) = some xs := rfl
theorem x_io4 {s0 s1 s2 s3 : Option (List W)} {xs : List W} {T : Store} {Q : W → Prop} : Wo (bltW (s0 :: s1 :: s2 :: s3 :: some xs :: T) .len [.loc 4]) Q = Q (.int xs.length) := rfl
theorem x_fz4 {s0 s1 s2 s3 : Option (List W)} {xs : List W} {T : Store} : Wp (evE M (.frz (.cst (.loc 4))) env (s0 :: s1 :: s2 :: s3 :: some xs :: T)) Q = Q (.lst xs) (s0 :: s1 :: s2 :: s3 :: none :: T) := by rw [evE, evE]; rfl
theorem x_sg5 {s0 s1 s2 s3 s4 : Option (List W)} {xs : List W} {T : Store} {k : Int} {Q : W → Prop} : Wo (subW (s0 :: s1 :: s2 :: s3 :: s4 :: some xs :: T) (.loc 5) (.int k)) Q = Wo (L2.atI xs k) Q := os_loc
theorem x_ss5 {s0 s1 s2 s3 s4 : Option (List W)} {xs : List W} {T : Store} {k : Int} {v : W} {Q : Store → Prop} : Wo (setW (s0 :: s1 :: s2 :: s3 :: s4 :: some xs :: T) (.loc 5) (.int k) v) Q = Wo (L2.ixN xs.length k) fun j => Q (s0 :: s1 :: s2 :: s3 :: s4 :: some (xs.set j v) :: T) := oset_loc
theorem x_ap5 {s0 s1 s2 s3 s4 : Option (List W)} {xs : List W} {T : Store} {x : W} : Wp (methW (s0 :: s1 :: s2 :: s3 :: s4 :: some xs :: T) .append (.loc 5) [x]) Q = (xs.length < PySem.sizeLine ∧ Q .non (s0 :: s1 :: s2 :: s3 :: s4 :: some (xs ++ [x]) :: T)) := om_append
theorem x_ex5 {s0 s1 s2 s3 s4 : Option (List W)} {xs ys : List W} {T : Store} : Wp (methW (s0 :: s1 :: s2 :: s3 :: s4 :: some xs :: T) .extend (.loc 5) [.lst ys]) Q = (xs.length + ys.length ≤ PySem.sizeLine ∧ Q .non (s0 :: s1 :: s2 :: s3 :: s4 :: some (xs ++ ys) :: T)) := om_extend
theorem x_rv5 {s0 s1 s2 s3 s4 : Option (List W)} {xs : List W} {T : Store} : Wp (methW (s0 :: s1 :: s2 :: s3 :: s4 :: some xs :: T) .reverse (.loc 5) []) Q = Q .non (s0 :: s1 :: s2 :: s3 :: s4 :: some xs.reverse :: T) := rfl
theorem x_cl5 {s0 s1 s2 s3 s4 : Option (List W)} {xs : List W} {T : Store} : Wp (methW (s0 :: s1 :: s2 :: s3 :: s4 :: some xs :: T) .clear (.loc 5) []) Q = Q .non (s0 :: s1 :: s2 :: s3 :: s4 :: some [] :: T) := rfl
theorem x_lo5 {s0 s1 s2 s3 s4 : Option (List W)} {xs : List W} {T : Store} : listOf (s0 :: s1 :: s2 :: s3 :: s4 :: some xs :: T) (.loc 5) = some xs := rfl
theorem x_io5 {s0 s1 s2 s3 s4 : Option (List W)} {xs : List W} {T : Store} {Q : W → Prop} : Wo (bltW (s0 :: s1 :: s2 :: s3 :: s4 :: some xs :: T) .len [.loc 5]) Q = Q (.int xs.length) := rfl
theorem x_fz5 {s0 s1 s2 s3 s4 : Option (List W)} {xs : List W} {T : Store} : Wp (evE M (.frz (.cst (.loc 5))) env (s0 :: s1 :: s2 :: s3 :: s4 :: some xs :: T)) Q = Q (.lst xs) (s0 :: s1 :: s2 :: s3 :: s4 :: none :: T) := by rw [evE, evE]; rfl
theorem x_frz {a : Xp} : Wp (evE M (.frz a) env S) Q = Wp (evE M a env S) fun x S1 => (match x with | .loc n => Wo (S1[n]?).join fun ds => Q (.lst ds) (S1.set n none) | _ => False) := by
  rw [evE]
  cases evE M a env S with
  | none => rfl
  | some p =>
    obtain ⟨x, S1⟩ := p
    cases x with
    | loc n => dsimp only [Wp]; cases (S1[n]?).join <;> rfl
    | _ => rfl
end
/-! ### what is known of the other defs -/
class HM (L : outParam (List Dt)) (con : outParam (Nat → W)) (fuel : outParam Nat) (M : Sem) (k : outParam Nat) : Prop where
  call : ∀ f ds S Q, At L con fuel k f ds S Q → Wc M f ds S Q
  fuel : M.fuel = fuel
  con : ∀ c, M.con c = con c
  fr : ∀ f, M.fr f = ((tblOf L)[f]?).any (·.fr)
section
variable {L : List Dt} {con : Nat → W} {fuel k f : Nat}
theorem at_hm {q : Dt} {ds : List W} {S : Store} {Q : W → Store → Prop} {b : Sms} {env : Env} {fr : Bool} (hq : L[f]? = some q) (hl : ds.length = q.d.params) (hb : q.d.body = b) (he : ds.map some ++ List.replicate (q.d.vars - ds.length) none = env) (hf : q.d.fr = fr)
    (h : ∀ (M : Sem), HM L con fuel M k → Wr (evSs M b env S) { nx := fun _ S1 => fr = false ∧ Q .non S1, rt := Q }) : At L con fuel (k + 1) f ds S Q :=
  at_def hq hl fun M h1 h2 h3 h4 => by rw [hb, he, hf]; exact h M ⟨h1, h2, h3, h4⟩
theorem fn_hm {q : Dt} {ds : List W} {v : W} {b : Sms} {env : Env} {fr : Bool} (hq : L[f]? = some q) (hl : ds.length = q.d.params) (hb : q.d.body = b) (he : ds.map some ++ List.replicate (q.d.vars - ds.length) none = env) (hf : q.d.fr = fr) (hv : v.free = true)
    (h : ∀ (M : Sem), HM L con fuel M k → Wr (evSs M b env []) { nx := fun _ S1 => fr = false ∧ W.non = v, rt := fun w _ => w = v }) : Fn L con fuel (k + 1) f ds (· = v) :=
  at_hm hq hl hb he hf fun M hM => (h M hM).mono (fun _ _ h => ⟨h.1, by rw [h.2]; exact hv, h.2⟩) (fun w S e => ⟨by rw [e]; exact hv, e⟩) (fun _ _ h => h) fun _ _ h => h
theorem Fn.sim {M : Sem} {k d : Nat} {ds : List W} {S : Store} {v : W} {Q : W → Store → Prop} (h : Fn L con fuel d f ds (· = v)) (hM : HM L con fuel M k) (hk : d ≤ k) (hf : W.frees ds = true) : Wk M f ds S Q = Q v S := by
  obtain ⟨w, S1, e, h1, h2⟩ := (hM.call _ _ _ _ (h.up hk)).ex
  subst h2
  unfold Wk pureCall
  rw [if_pos hf, e]
  show Wp (if w.free = true then some (w, S) else none) Q = _
  rw [if_pos h1]; rfl
theorem At.wc {M : Sem} {k d : Nat} {ds : List W} {S : Store} {P Q : W → Store → Prop} (h : At L con fuel d f ds S P) (hM : HM L con fuel M k) (hk : d ≤ k) (i : ∀ w S, P w S → Q w S) : Wc M f ds S Q := (hM.call _ _ _ _ (h.up hk)).mono i
/-- what is promised of a result alone -/
theorem Fn.wkP {M : Sem} {k d : Nat} {ds : List W} {S : Store} {P : W → Prop} {Q : W → Store → Prop} (h : Fn L con fuel d f ds P) (hM : HM L con fuel M k) (hk : d ≤ k) (hf : W.frees ds = true) (i : ∀ w, w.free = true → P w → Q w S) : Wk M f ds S Q := by
  rw [wk_free hf]
  exact (hM.call _ _ _ _ (h.up hk)).mono fun w _ h => ⟨h.1, i w h.1 h.2⟩
variable {M : Sem} [hM : HM L con fuel M k] {env : Env} {S : Store} {Q : W → Store → Prop}
include hM
theorem x_con (c : Nat) : Wp (evE M (.con c) env S) Q = Q (con c) S := by rw [wp_con, hM.con]
theorem x_whl {t : Xp} {b : Sms} {D : Dn} : Wr (evS M (.whl t b) env S) D = Wr (whlGo (fun env S => evT M t env S) (fun env S => evSs M b env S) fuel env S) (hold D ⟨⟩) := by rw [wr_whl, hM.fuel, hold_eq]
theorem x_fr : M.fr f = ((tblOf L)[f]?).any (·.fr) := hM.fr f
end
theorem x_frL {M : Sem} {es : Xps} : fresh M (.lst es) = true := rfl
theorem x_frC {M : Sem} {a : Xp} {t : Xt} {i : Xi} {f : Xps} {o : List Nat} : fresh M (.comp a t i f o) = true := rfl
theorem x_frF {M : Sem} {f : Nat} {a : Xps} : fresh M (.call f a) = M.fr f := rfl
theorem x_frK {M : Sem} {f : Nat} {a b : Xps} {ks : List Nat} : fresh M (.callK f a ks b) = M.fr f := rfl
theorem x_frB {M : Sem} {a : Xps} : fresh M (.blt .list a) = true := rfl
theorem x_frA {M : Sem} {a b : Xp} : fresh M (.cat a b) = true := rfl
/-! ### sizes -/
class Siz (z : Int) (n : outParam Nat) : Prop where
  h : Sz n z
class Szb (q : Rat) (n : outParam Nat) : Prop where
  h : Rz n q
theorem lt_log2 (k : Nat) : k < 2 ^ (k.log2 + 1) := by
  by_cases h : k = 0
  · subst h; decide
  · exact (Nat.log2_lt h).mp (Nat.lt_succ_self _)
instance siz_lit (k : Nat) : Siz (OfNat.ofNat k : Int) k := ⟨by unfold Sz; exact Nat.lt_two_pow_self⟩
instance siz_cast (k : Nat) : Siz ((OfNat.ofNat k : Nat) : Int) k := ⟨by unfold Sz; exact Nat.lt_two_pow_self⟩
instance siz_neg {a : Int} {n : Nat} [h : Siz a n] : Siz (-a) n := ⟨h.h.neg⟩
instance siz_add {a b : Int} {n m : Nat} [h : Siz a n] [h' : Siz b m] : Siz (a + b) (n + m + 1) := ⟨(h.h.up (by omega : n ≤ n + m)).add (h'.h.up (by omega))⟩
instance siz_sub {a b : Int} {n m : Nat} [h : Siz a n] [h' : Siz b m] : Siz (a - b) (n + m + 1) := ⟨(h.h.up (by omega : n ≤ n + m)).sub (h'.h.up (by omega))⟩
instance siz_mul {a b : Int} {n m : Nat} [h : Siz a n] [h' : Siz b m] : Siz (a * b) (n + m) := ⟨h.h.mul h'.h⟩
instance siz_num {q : Rat} {n : Nat} [h : Szb q n] : Siz q.num n := ⟨h.h.1⟩
instance siz_den {q : Rat} {n : Nat} [h : Szb q n] : Siz (q.den : Int) n := ⟨h.h.2⟩
theorem sz_fdiv {n : Nat} {a b : Int} (h : Sz n a) : Sz (n + 1) (a.fdiv b) := by
  unfold Sz at *
  have h1 : (a.fdiv b).natAbs ≤ a.natAbs + 1 := by
    rw [Int.fdiv_eq_ediv]
    have := Int.natAbs_ediv_le_natAbs a b
    split <;> omega
  rw [Nat.pow_succ]; omega
instance siz_fdiv {a b : Int} {n : Nat} [h : Siz a n] : Siz (a.fdiv b) (n + 1) := ⟨sz_fdiv h.h⟩
theorem rz_divInt {n m : Nat} {a b : Int} (h : Sz n a) (h' : Sz m b) : Rz (n + m + 1) (Rat.divInt a b) := by
  by_cases hb : b = 0
  · subst hb
    rw [Rat.divInt_zero]
    constructor
    · show Sz _ 0; unfold Sz; exact Nat.two_pow_pos _
    · show Sz _ ((1 : Nat) : Int); unfold Sz; rw [Nat.pow_succ]; have := Nat.two_pow_pos (n + m); simp only [Int.natAbs_natCast]; omega
  · exact .of hb (h.up (by omega)) (h'.up (by omega))
instance szb_divInt {n m : Nat} {a b : Int} [h : Siz a n] [h' : Siz b m] : Szb (Rat.divInt a b) (n + m + 1) := ⟨rz_divInt h.h h'.h⟩
theorem mul_ok {a b : Int} {n m : Nat} [h : Siz a n] [h' : Siz b m] (i : n + m < 100000000) : MulOk a b = True := eq_true (h.h.mulOk h'.h i)
theorem div_ok {a b : Int} {m : Nat} [h' : Siz b m] (i : m < 9000) (h0 : b ≠ 0) : DivOk a b = True := eq_true (h'.h.divOk h0 i)

def dn_Ex1 : List Lean.Name := [`x_call, `x_callS, `x_callK, `x_comp, `x_for, `x_forNil, `x_t, `x_andd, `x_orr, `x_ite, `x_if, `x_chain, `x_slc0, `x_slc1, `x_slc2, `x_slc3, `x_v0, `x_n0, `x_v1, `x_n1, `x_v2, `x_n2, `x_v3, `x_n3, `x_v4, `x_n4, `x_v5, `x_n5, `x_v6, `x_n6, `x_v7, `x_n7, `x_v8, `x_n8, `x_v9, `x_n9, `x_v10, `x_n10, `x_v11, `x_n11, `x_v12, `x_n12, `x_v13, `x_n13, `x_v14, `x_n14, `x_v15, `x_n15, `x_v16, `x_n16, `x_v17, `x_n17, `x_v18, `x_n18, `x_v19, `x_n19, `x_sg0, `x_ss0, `x_ap0, `x_ex0, `x_rv0, `x_cl0, `x_lo0, `x_io0, `x_fz0, `x_sg1, `x_ss1, `x_ap1, `x_ex1, `x_rv1, `x_cl1, `x_lo1, `x_io1, `x_fz1, `x_sg2, `x_ss2, `x_ap2, `x_ex2, `x_rv2, `x_cl2, `x_lo2, `x_io2, `x_fz2, `x_sg3, `x_ss3, `x_ap3, `x_ex3, `x_rv3, `x_cl3, `x_lo3, `x_io3, `x_fz3, `x_sg4, `x_ss4, `x_ap4, `x_ex4, `x_rv4, `x_cl4, `x_lo4, `x_io4, `x_fz4, `x_sg5, `x_ss5, `x_ap5, `x_ex5, `x_rv5, `x_cl5, `x_lo5, `x_io5, `x_fz5, `x_frz]
def up_Ex1 : List Lean.Name := [`hold_q, `br_th, `br_fh, `br_not, `h_nx, `h_rt, `h_bk, `h_ct, `x_frL, `x_frC, `x_frF, `x_frK, `x_frB, `x_frA, `mul_ok, `div_ok]
end Rf

namespace Rf
/-! ### no cells within -/
class Fre (w : W) : Prop where
  h : w.free = true
class Fres (ws : List W) : Prop where
  h : W.frees ws = true
instance fre_non : Fre .non := ⟨rfl⟩
instance fre_bl {b : Bool} : Fre (.bl b) := ⟨rfl⟩
instance fre_int {i : Int} : Fre (.int i) := ⟨rfl⟩
instance fre_str {s : PySem.Str} : Fre (.str s) := ⟨rfl⟩
instance fre_ed : Fre .edict := ⟨rfl⟩
instance fre_rq {q : Rat} : Fre (rq q) := ⟨rfl⟩
instance fre_lst {ws : List W} [h : Fres ws] : Fre (.lst ws) := ⟨h.h⟩
instance fre_tup {ws : List W} [h : Fres ws] : Fre (.tup ws) := ⟨h.h⟩
instance fre_ro {ws : List W} [h : Fres ws] : Fre (.ro ws) := ⟨h.h⟩
instance fres_nil : Fres [] := ⟨rfl⟩
instance fres_cons {w : W} {ws : List W} [h : Fre w] [h' : Fres ws] : Fres (w :: ws) := ⟨by show (w.free && W.frees ws) = true; rw [h.h, h'.h]; rfl⟩
theorem frees_iff : ∀ {ws : List W}, W.frees ws = true ↔ ∀ w ∈ ws, w.free = true
  | [] => ⟨fun _ _ h => (nomatch h), fun _ => rfl⟩
  | w :: ws => by
    show (w.free && W.frees ws) = true ↔ _
    rw [Bool.and_eq_true, frees_iff, List.forall_mem_cons]
instance fres_map {α : Type} {f : α → W} {l : List α} [h : ∀ a, Fre (f a)] : Fres (l.map f) := ⟨frees_iff.mpr fun w hw => by obtain ⟨a, _, rfl⟩ := List.mem_map.mp hw; exact (h a).h⟩
instance fres_app {l r : List W} [h : Fres l] [h' : Fres r] : Fres (l ++ r) := ⟨frees_iff.mpr fun w hw => by
  rcases List.mem_append.mp hw with hw | hw
  · exact frees_iff.mp h.h w hw
  · exact frees_iff.mp h'.h w hw⟩
/-! ### lengths -/
class LenC {α : Type} (l : List α) (n : outParam Nat) : Prop where
  h : l.length ≤ n
instance len_nil {α : Type} : LenC ([] : List α) 0 := ⟨Nat.le_refl _⟩
instance len_cons {α : Type} {a : α} {l : List α} {n : Nat} [h : LenC l n] : LenC (a :: l) (n + 1) := ⟨Nat.succ_le_succ h.h⟩
instance len_range {n : Nat} : LenC (List.range n) n := ⟨by rw [List.length_range]; exact Nat.le_refl _⟩
instance len_rep {α : Type} {a : α} {n : Nat} : LenC (List.replicate n a) n := ⟨by rw [List.length_replicate]; exact Nat.le_refl _⟩
instance len_map {α β : Type} {f : α → β} {l : List α} {n : Nat} [h : LenC l n] : LenC (l.map f) n := ⟨by rw [List.length_map]; exact h.h⟩
instance len_app {α : Type} {l r : List α} {n m : Nat} [h : LenC l n] [h' : LenC r m] : LenC (l ++ r) (n + m) := ⟨by rw [List.length_append]; exact Nat.add_le_add h.h h'.h⟩
instance len_take {α : Type} {l : List α} {n k : Nat} [h : LenC l n] : LenC (l.take k) n := ⟨by rw [List.length_take]; have := h.h; omega⟩
instance len_drop {α : Type} {l : List α} {n k : Nat} [h : LenC l n] : LenC (l.drop k) n := ⟨by rw [List.length_drop]; have := h.h; omega⟩
instance len_filter {α : Type} {l : List α} {n : Nat} {p : α → Bool} [h : LenC l n] : LenC (l.filter p) n := ⟨Nat.le_trans (List.length_filter_le _ _) h.h⟩
instance len_zip {α β : Type} {l : List α} {r : List β} {n : Nat} [h : LenC l n] : LenC (l.zip r) n := ⟨by rw [List.length_zip]; have := h.h; omega⟩
instance len_zipW {α β γ : Type} {f : α → β → γ} {l : List α} {r : List β} {n : Nat} [h : LenC l n] : LenC (List.zipWith f l r) n := ⟨by rw [List.length_zipWith]; have := h.h; omega⟩
instance len_set {α : Type} {l : List α} {n k : Nat} {a : α} [h : LenC l n] : LenC (l.set k a) n := ⟨by rw [List.length_set]; exact h.h⟩
instance len_rev {α : Type} {l : List α} {n : Nat} [h : LenC l n] : LenC l.reverse n := ⟨by rw [List.length_reverse]; exact h.h⟩
theorem size_len {α : Type} {l : List α} {n : Nat} [h : LenC l n] (i : n ≤ 10000000) : (l.length ≤ PySem.sizeLine) = True := eq_true (by rw [PySem.sizeLine_eq]; have := h.h; omega)
theorem size_len2 {α β : Type} {l : List α} {r : List β} {n m : Nat} [h : LenC l n] [h' : LenC r m] (i : n + m ≤ 10000000) : (l.length + r.length ≤ PySem.sizeLine) = True := eq_true (by rw [PySem.sizeLine_eq]; have := h.h; have := h'.h; omega)
theorem size_lt {α : Type} {l : List α} {n : Nat} [h : LenC l n] (i : n ≤ 10000000) : (l.length < PySem.sizeLine) = True := eq_true (by rw [PySem.sizeLine_eq]; have := h.h; omega)
theorem size_lit {n : Nat} (i : n ≤ 10000000) : (n ≤ PySem.sizeLine) = True := eq_true (by rw [PySem.sizeLine_eq]; omega)
theorem size_lit' {n : Nat} (i : n ≤ 10000000) : (n < PySem.sizeLine) = True := eq_true (by rw [PySem.sizeLine_eq]; omega)
/-! ### numbers, rows -/
/-- INTEGERS and RATIOS -/
inductive Num
  | int (i : Int)
  | rat (q : Rat)
def Num.w : Num → W
  | .int i => .int i
  | .rat q => rq q
def Num.q : Num → Rat
  | .int i => i
  | .rat q => q
class NumC (w : W) (q : outParam Rat) : Prop where
  h : IsNum w q
instance numC_rq {q : Rat} : NumC (rq q) q := ⟨.inl rfl⟩
instance numC_int {i : Int} : NumC (.int i) (i : Rat) := ⟨.inr ⟨i, rfl, rfl⟩⟩
instance numC_w {n : Num} : NumC n.w n.q := ⟨match n with | .int i => .inr ⟨i, rfl, rfl⟩ | .rat _ => .inl rfl⟩
instance num_fre {w : W} {q : Rat} [h : NumC w q] : Fre w := ⟨h.h.free⟩
theorem num_ex {w : W} {q : Rat} (h : IsNum w q) : ∃ n : Num, w = n.w ∧ q = n.q := by
  rcases h with rfl | ⟨i, rfl, rfl⟩
  · exact ⟨.rat q, rfl, rfl⟩
  · exact ⟨.int i, rfl, rfl⟩
class RowC (ws : List W) (qs : outParam (List Rat)) : Prop where
  h : Row ws qs
instance row_nil : RowC [] [] := ⟨.nil⟩
instance row_cons {w : W} {q : Rat} {ws : List W} {qs : List Rat} [h : NumC w q] [h' : RowC ws qs] : RowC (w :: ws) (q :: qs) := ⟨.cons h.h h'.h⟩
theorem row_map {α : Type} {f : α → W} {g : α → Rat} : ∀ {l : List α}, (∀ a, IsNum (f a) (g a)) → Row (l.map f) (l.map g)
  | [], _ => .nil
  | a :: l, h => .cons (h a) (row_map h)
instance row_maps {l : List Num} : RowC (l.map Num.w) (l.map Num.q) := ⟨row_map fun n => (numC_w (n := n)).h⟩
instance row_rqs {l : List Rat} : RowC (l.map rq) l := ⟨row_rq l⟩
instance row_ints {l : List Int} : RowC (l.map W.int) (l.map fun i : Int => ((i : Int) : Rat)) := ⟨row_map fun _ => .inr ⟨_, rfl, rfl⟩⟩
theorem Row.app {ws us : List W} {qs rs : List Rat} (h : Row ws qs) (h' : Row us rs) : Row (ws ++ us) (qs ++ rs) := by
  induction h with
  | nil => exact h'
  | cons a _ ih => exact .cons a ih
instance row_app {ws us : List W} {qs rs : List Rat} [h : RowC ws qs] [h' : RowC us rs] : RowC (ws ++ us) (qs ++ rs) := ⟨h.h.app h'.h⟩
instance row_fres {ws : List W} {qs : List Rat} [h : RowC ws qs] : Fres ws := ⟨h.h.frees⟩
class SeqC (w : W) (ws : outParam (List W)) : Prop where
  h : w = .lst ws ∨ w = .tup ws
instance seq_l {ws : List W} : SeqC (.lst ws) ws := ⟨.inl rfl⟩
instance seq_t {ws : List W} : SeqC (.tup ws) ws := ⟨.inr rfl⟩
instance seq_fre {w : W} {ws : List W} [h : SeqC w ws] [h' : Fres ws] : Fre w := ⟨by rcases h.h with e | e <;> (rw [e]; exact h'.h)⟩
theorem seqOf_c {w : W} {ws : List W} [h : SeqC w ws] {Q : List W → Prop} : Wo (seqOf w) Q = Q ws := by rcases h.h with e | e <;> (rw [e]; rfl)
theorem len_c {w : W} {ws : List W} [h : SeqC w ws] {S : Store} {Q : W → Prop} : Wo (bltW S .len [w]) Q = Q (.int ws.length) := by rcases h.h with e | e <;> (rw [e]; rfl)
theorem sub_c {w : W} {ws : List W} [h : SeqC w ws] {S : Store} {k : Int} {Q : W → Prop} : Wo (subW S w (.int k)) Q = Wo (L2.atI ws k) Q := by rcases h.h with e | e <;> (rw [e]; rfl)
theorem isi_c {w : W} {ws : List W} [h : SeqC w ws] {Q : Bool → Prop} : Wo (isiW w ["list", "tuple"]) Q = Q true := by rcases h.h with e | e <;> (rw [e]; rfl)
theorem os_q0 {S : Store} {q : Rat} {Q : W → Prop} : Wo (subW S (rq q) (.int 0)) Q = Q (.int q.num) := rfl
theorem os_q1 {S : Store} {q : Rat} {Q : W → Prop} : Wo (subW S (rq q) (.int 1)) Q = Q (.int q.den) := rfl
theorem oi_q {q : Rat} {Q : Bool → Prop} : Wo (isiW (rq q) ["tuple"]) Q = Q true := rfl
theorem oi_qi {q : Rat} {Q : Bool → Prop} : Wo (isiW (rq q) ["int"]) Q = Q false := rfl
theorem oi_qb {q : Rat} {Q : Bool → Prop} : Wo (isiW (rq q) ["bool"]) Q = Q false := rfl
theorem tt_rq {M : Sem} {ts : Xts} {q : Rat} {env : Env} {S : Store} {Q : Env → Store → Prop} : Wp (asgT M (.tup ts) (rq q) env S) Q = Wp (asgTs M ts [.int q.num, .int q.den] env S) Q := wp_ttup
/-- sizes of rows -/
class Szl (qs : List Rat) (n : outParam Nat) : Prop where
  h : Rzs n qs
theorem Szl.get {qs : List Rat} {n : Nat} [h : Szl qs n] {q : Rat} (i : q ∈ qs) : Szb q n := ⟨h.h q i⟩
instance szl_nil : Szl [] 0 := ⟨fun _ h => nomatch h⟩
instance szl_cons {q : Rat} {qs : List Rat} {n m : Nat} [h : Szb q n] [h' : Szl qs m] : Szl (q :: qs) (n + m) := ⟨fun p hp => by
  rcases List.mem_cons.mp hp with rfl | hp
  · exact h.h.up (by omega)
  · exact (h'.h p hp).up (by omega)⟩
instance szl_app {qs rs : List Rat} {n m : Nat} [h : Szl qs n] [h' : Szl rs m] : Szl (qs ++ rs) (n + m) := ⟨fun p hp => by
  rcases List.mem_append.mp hp with hp | hp
  · exact (h.h p hp).up (by omega)
  · exact (h'.h p hp).up (by omega)⟩
instance szl_take {qs : List Rat} {n k : Nat} [h : Szl qs n] : Szl (qs.take k) n := ⟨fun p hp => h.h p (List.mem_of_mem_take hp)⟩
instance szl_drop {qs : List Rat} {n k : Nat} [h : Szl qs n] : Szl (qs.drop k) n := ⟨fun p hp => h.h p (List.mem_of_mem_drop hp)⟩
theorem rz_subn {n1 n2 : Nat} {p q : Rat} (r : Rz n1 p) (r' : Rz n2 q) : Rz (n1 + n2 + 1) (p - q) := by
  obtain ⟨_, s2, s3, s4⟩ := rz_mul r r'
  rw [← sub_low]
  exact .of (Int.mul_ne_zero (den_ne p) (den_ne q)) (s3.sub s4) (s2.up (by omega))
theorem rz_negn {n : Nat} {p : Rat} (r : Rz n p) : Rz n (-p) := ⟨by rw [Rat.neg_num]; exact r.1.neg, by rw [Rat.neg_den]; exact r.2⟩
theorem rz_divn {n1 n2 : Nat} {p q : Rat} (r : Rz n1 p) (r' : Rz n2 q) : Rz (n1 + n2 + 1) (p / q) := by
  rw [← div_low]
  have a := r.1.mul r'.2
  have b := r.2.mul r'.1
  by_cases hb : ((p.den : Int) * q.num) = 0
  · rw [hb, Rat.divInt_zero]
    constructor
    · show Sz _ 0; unfold Sz; exact Nat.two_pow_pos _
    · show Sz _ ((1 : Nat) : Int); unfold Sz; rw [Nat.pow_succ]; have := Nat.two_pow_pos (n1 + n2); simp only [Int.natAbs_natCast]; omega
  · exact .of hb (a.up (by omega)) (b.up (by omega))
instance szb_add {p q : Rat} {n m : Nat} [h : Szb p n] [h' : Szb q m] : Szb (p + q) (n + m + 1) := ⟨rz_add h.h h'.h⟩
instance szb_sub {p q : Rat} {n m : Nat} [h : Szb p n] [h' : Szb q m] : Szb (p - q) (n + m + 1) := ⟨rz_subn h.h h'.h⟩
instance szb_mul {p q : Rat} {n m : Nat} [h : Szb p n] [h' : Szb q m] : Szb (p * q) (n + m) := ⟨rz_times h.h h'.h⟩
instance szb_div {p q : Rat} {n m : Nat} [h : Szb p n] [h' : Szb q m] : Szb (p / q) (n + m + 1) := ⟨rz_divn h.h h'.h⟩
instance szb_neg {p : Rat} {n : Nat} [h : Szb p n] : Szb (-p) n := ⟨rz_negn h.h⟩
theorem rz_intn {i : Int} {n : Nat} (h : Sz n i) : Rz (n + 1) (i : Rat) := ⟨h.up (by omega), by show Sz _ ((1 : Nat) : Int); unfold Sz; rw [Nat.pow_succ]; have := Nat.two_pow_pos n; simp only [Int.natAbs_natCast]; omega⟩
instance szb_int {i : Int} {n : Nat} [h : Siz i n] : Szb (i : Rat) (n + 1) := ⟨rz_intn h.h⟩
instance szb_0 : Szb (0 : Rat) 1 := ⟨by constructor <;> (unfold Sz; decide)⟩
instance szb_1 : Szb (1 : Rat) 1 := ⟨by constructor <;> (unfold Sz; decide)⟩
/-! ### plain data -/
inductive DatM (m : Nat) : Nat → W → Prop
  | non {n : Nat} : DatM m n .non
  | bl {n : Nat} (b : Bool) : DatM m n (.bl b)
  | int {n : Nat} (i : Int) : DatM m n (.int i)
  | str {n : Nat} (x : PySem.Str) : DatM m n (.str x)
  | tup {n : Nat} {xs : List W} : xs.length ≤ m → (∀ x ∈ xs, DatM m n x) → DatM m (n + 1) (.tup xs)
  | lst {n : Nat} {xs : List W} : xs.length ≤ m → (∀ x ∈ xs, DatM m n x) → DatM m (n + 1) (.lst xs)
theorem DatM.dat {m : Nat} (h : m ≤ 1000000) : ∀ {n : Nat} {w : W}, DatM m n w → Dat n w
  | _, _, .non => .non
  | _, _, .bl b => .bl b
  | _, _, .int i => .int i
  | _, _, .str x => .str x
  | _, _, .tup a b => .tup (Nat.le_trans a h) fun x hx => (b x hx).dat h
  | _, _, .lst a b => .lst (Nat.le_trans a h) fun x hx => (b x hx).dat h
theorem DatM.up {m m' : Nat} (h : m ≤ m') : ∀ {n n' : Nat} {w : W}, n ≤ n' → DatM m n w → DatM m' n' w
  | _, _, _, _, .non => .non
  | _, _, _, _, .bl b => .bl b
  | _, _, _, _, .int i => .int i
  | _, _, _, _, .str x => .str x
  | _, 0, _, i, .tup a b => absurd i (by omega)
  | _, n' + 1, _, i, .tup a b => .tup (Nat.le_trans a h) fun x hx => (b x hx).up h (by omega)
  | _, 0, _, i, .lst a b => absurd i (by omega)
  | _, n' + 1, _, i, .lst a b => .lst (Nat.le_trans a h) fun x hx => (b x hx).up h (by omega)
class DatC (w : W) (n m : outParam Nat) : Prop where
  h : DatM m n w
class DatL (ws : List W) (n m : outParam Nat) : Prop where
  h : ws.length ≤ m ∧ ∀ w ∈ ws, DatM m n w
instance dat_non : DatC .non 0 0 := ⟨.non⟩
instance dat_bl {b : Bool} : DatC (.bl b) 0 0 := ⟨.bl b⟩
instance dat_int {i : Int} : DatC (.int i) 0 0 := ⟨.int i⟩
instance dat_str {s : PySem.Str} : DatC (.str s) 0 0 := ⟨.str s⟩
instance dat_lst {ws : List W} {n m : Nat} [h : DatL ws n m] : DatC (.lst ws) (n + 1) m := ⟨.lst h.h.1 h.h.2⟩
instance dat_tup {ws : List W} {n m : Nat} [h : DatL ws n m] : DatC (.tup ws) (n + 1) m := ⟨.tup h.h.1 h.h.2⟩
instance datl_nil : DatL [] 0 0 := ⟨Nat.le_refl _, fun _ h => nomatch h⟩
instance datl_cons {w : W} {ws : List W} {n m n' m' : Nat} [h : DatC w n m] [h' : DatL ws n' m'] : DatL (w :: ws) (n + n') (m + m' + 1) := ⟨by have := h'.h.1; simp only [List.length_cons]; omega, fun x hx => by
  rcases List.mem_cons.mp hx with rfl | hx
  · exact h.h.up (by omega) (by omega)
  · exact (h'.h.2 x hx).up (by omega) (by omega)⟩
instance datl_map {α : Type} {f : α → W} {l : List α} {n m k : Nat} [h : ∀ a, DatC (f a) n m] [h' : LenC l k] : DatL (l.map f) n (m + k) := ⟨by have := h'.h; rw [List.length_map]; omega, fun x hx => by
  obtain ⟨a, _, rfl⟩ := List.mem_map.mp hx
  exact (h a).h.up (by omega) (by omega)⟩
instance datl_app {l r : List W} {n m n' m' : Nat} [h : DatL l n m] [h' : DatL r n' m'] : DatL (l ++ r) (n + n') (m + m') := ⟨by have := h.h.1; have := h'.h.1; rw [List.length_append]; omega, fun x hx => by
  rcases List.mem_append.mp hx with hx | hx
  · exact (h.h.2 x hx).up (by omega) (by omega)
  · exact (h'.h.2 x hx).up (by omega) (by omega)⟩
instance dat_rq {q : Rat} : DatC (rq q) 1 2 := ⟨.tup (by simp) fun x hx => by
  simp only [List.mem_cons, List.not_mem_nil, or_false] at hx
  rcases hx with rfl | rfl <;> exact .int _⟩
instance dat_num {n : Num} : DatC n.w 1 2 := ⟨match n with | .int i => .int i | .rat q => (dat_rq (q := q)).h⟩
instance dat_fre {w : W} {n m : Nat} [h : DatC w n m] : Fre w := ⟨by
  have : ∀ {n : Nat} {w : W}, DatM m n w → w.free = true := by
    intro n w h
    induction h with
    | non => rfl
    | bl => rfl
    | int => rfl
    | str => rfl
    | tup _ _ ih => exact frees_iff.mpr ih
    | lst _ _ ih => exact frees_iff.mpr ih
  exact this h.h⟩
/-! ### equality of plain data -/
theorem DatM.okn {m : Nat} : ∀ {n : Nat} {w : W}, DatM m n w → W.ok n w = true
  | _, _, .non => by unfold W.ok; rfl
  | _, _, .bl _ => by unfold W.ok; rfl
  | _, _, .int _ => by unfold W.ok; rfl
  | _, _, .str _ => by unfold W.ok; rfl
  | _, _, @DatM.tup _ n xs _ h => by
    show W.oks n xs = true
    have : ∀ l : List W, (∀ x ∈ l, DatM m n x) → W.oks n l = true := fun l => by
      induction l with
      | nil => intro _; rfl
      | cons a l ih => intro h; show (a.ok n && W.oks n l) = true; rw [(h a List.mem_cons_self).okn, ih fun x hx => h x (List.mem_cons_of_mem _ hx)]; rfl
    exact this xs h
  | _, _, @DatM.lst _ n xs _ h => by
    show W.oks n xs = true
    have : ∀ l : List W, (∀ x ∈ l, DatM m n x) → W.oks n l = true := fun l => by
      induction l with
      | nil => intro _; rfl
      | cons a l ih => intro h; show (a.ok n && W.oks n l) = true; rw [(h a List.mem_cons_self).okn, ih fun x hx => h x (List.mem_cons_of_mem _ hx)]; rfl
    exact this xs h
theorem dat_ok {w : W} {n m : Nat} [h : DatC w n m] (i : n ≤ 40) : W.ok 40 w = true := (h.h.up (Nat.le_refl _) i).okn
theorem same_c {a b : W} {n m n' m' : Nat} [h : DatC a n m] [h' : DatC b n' m'] (i : n ≤ 40) (i' : n' ≤ 40) : W.same a b = some (W.eqv a b) := by
  unfold W.same; rw [dat_ok i, dat_ok i']; rfl
theorem oc_eq {S : Store} {a b : W} {Q : W → Prop} : Wo (cmpW S .eq a b) Q = Wo (W.same a b) fun k => Q (.bl k) := by
  show Wo ((W.same a b).map W.bl) Q = _
  cases W.same a b <;> rfl
theorem oc_ne {S : Store} {a b : W} {Q : W → Prop} : Wo (cmpW S .ne a b) Q = Wo (W.same a b) fun k => Q (.bl (!k)) := by
  show Wo ((W.same a b).map fun k => W.bl (!k)) Q = _
  cases W.same a b <;> rfl
theorem eqv_int {i j : Int} : W.eqv (.int i) (.int j) = decide (i = j) := by show (i == j) = _; rw [Bool.eq_iff_iff]; simp
theorem eqv_bl {i j : Bool} : W.eqv (.bl i) (.bl j) = (i == j) := rfl
theorem eqv_str {i j : PySem.Str} : W.eqv (.str i) (.str j) = (i == j) := rfl
theorem eqv_rq {p q : Rat} : W.eqv (rq p) (rq q) = decide (p = q) := by
  show ((p.num == q.num) && (((p.den : Int) == (q.den : Int)) && true)) = _
  rw [Bool.eq_iff_iff, decide_eq_true_eq, Bool.and_true, Bool.and_eq_true, beq_iff_eq, beq_iff_eq]
  constructor
  · rintro ⟨a, b⟩; exact Rat.ext a (by omega)
  · rintro rfl; exact ⟨rfl, rfl⟩
theorem eqvs_map {α : Type} [DecidableEq α] {f : α → W} (h : ∀ a b, W.eqv (f a) (f b) = decide (a = b)) : ∀ l r : List α, W.eqvs (l.map f) (r.map f) = decide (l = r)
  | [], [] => by simp [W.eqvs]
  | [], b :: r => by simp [W.eqvs]
  | a :: l, [] => by simp [W.eqvs]
  | a :: l, b :: r => by
    show (W.eqv (f a) (f b) && W.eqvs (l.map f) (r.map f)) = _
    rw [h, eqvs_map h, Bool.eq_iff_iff]; simp
theorem eqv_rqs {p q : List Rat} : W.eqv (.lst (p.map rq)) (.lst (q.map rq)) = decide (p = q) := eqvs_map (fun _ _ => eqv_rq) p q
theorem eqv_ints {p q : List Int} : W.eqv (.lst (p.map W.int)) (.lst (q.map W.int)) = decide (p = q) := eqvs_map (fun _ _ => eqv_int) p q
mutual
theorem eqv_self : ∀ w : W, w.free = true → (∀ n : Nat, W.ok n w = true → W.eqv w w = true)
  | .non, _, _, _ => rfl
  | .bl b, _, _, _ => by show (b == b) = true; exact beq_self_eq_true b
  | .int b, _, _, _ => by show (b == b) = true; exact beq_self_eq_true b
  | .str b, _, _, _ => by show (b == b) = true; exact beq_self_eq_true b
  | .tup xs, h, 0, o => by simp [W.ok] at o
  | .tup xs, h, n + 1, o => eqvs_self xs h n o
  | .lst xs, h, 0, o => by simp [W.ok] at o
  | .lst xs, h, n + 1, o => eqvs_self xs h n o
  | .ro xs, h, n, o => by cases n <;> simp [W.ok] at o
  | .loc _, h, n, o => by cases n <;> simp [W.ok] at o
  | .edict, h, n, o => by cases n <;> simp [W.ok] at o
theorem eqvs_self : ∀ ws : List W, W.frees ws = true → (∀ n : Nat, W.oks n ws = true → W.eqvs ws ws = true)
  | [], _, _, _ => rfl
  | w :: ws, h, n, o => by
    have h : (w.free && W.frees ws) = true := h
    have o : (w.ok n && W.oks n ws) = true := o
    rw [Bool.and_eq_true] at h o
    show (W.eqv w w && W.eqvs ws ws) = true
    rw [eqv_self w h.1 n o.1, eqvs_self ws h.2 n o.2]; rfl
end
theorem eqv_refl {w : W} {n m : Nat} [h : DatC w n m] : W.eqv w w = true := eqv_self w (dat_fre (w := w)).h n h.h.okn
/-! ### iterables of maps -/
theorem zip_map2 {α β : Type} {f : α → W} {g : β → W} : ∀ {l : List α} {r : List β}, zip2W (l.map f) (r.map g) = (l.zip r).map fun p => .tup [f p.1, g p.2]
  | [], _ => by simp [zip2W]
  | _ :: _, [] => by simp [zip2W]
  | a :: l, b :: r => by
    show W.tup [f a, g b] :: zip2W (l.map f) (r.map g) = _
    rw [zip_map2]; rfl
theorem zip_cons2 {a b : W} {l r : List W} : zip2W (a :: l) (b :: r) = .tup [a, b] :: zip2W l r := rfl
theorem zip_nil2 {l : List W} : zip2W [] l = [] := by cases l <;> rfl
theorem zip_nil3 {l : List W} : zip2W l [] = [] := by cases l <;> rfl
theorem range_map {n : Nat} : rangeW 0 n = (List.range n).map fun i => .int (i : Int) := by
  unfold rangeW; refine List.map_congr_left fun i _ => ?_; rw [Int.zero_add]
theorem enum_from {α : Type} {f : α → W} : ∀ (l : List α) (i : Nat), enumW i (l.map f) = (l.zipIdx i).map fun p => .tup [.int (p.2 : Int), f p.1]
  | [], _ => rfl
  | a :: l, i => by
    show W.tup [.int i, f a] :: enumW (i + 1) (l.map f) = _
    rw [enum_from]; rfl
theorem enum_map {α : Type} {f : α → W} {l : List α} : enumW 0 (l.map f) = l.zipIdx.map fun p => .tup [.int (p.2 : Int), f p.1] := enum_from l 0
theorem bools_map {α : Type} {p : α → Bool} : ∀ l : List α, boolsOf (l.map fun a => .bl (p a)) = some (l.map p)
  | [] => rfl
  | a :: l => by
    show (boolsOf (l.map fun a => .bl (p a))).map (p a :: ·) = _
    rw [bools_map l]; rfl
theorem ints_map {α : Type} {p : α → Int} : ∀ l : List α, intsOf (l.map fun a => .int (p a)) = some (l.map p)
  | [] => rfl
  | a :: l => by
    show (intsOf (l.map fun a => .int (p a))).map (p a :: ·) = _
    rw [ints_map l]; rfl
theorem all_map {α : Type} {S : Store} {p : α → Bool} {l : List α} {Q : W → Prop} : Wo (bltW S .all [.lst (l.map fun a => .bl (p a))]) Q = Q (.bl (l.all p)) := by
  show Wo ((boolsOf (l.map fun a => .bl (p a))).map fun bs => W.bl (bs.all id)) Q = _
  rw [bools_map]; show Q (.bl ((l.map p).all id)) = _; rw [List.all_map]; rfl
theorem any_map {α : Type} {S : Store} {p : α → Bool} {l : List α} {Q : W → Prop} : Wo (bltW S .any [.lst (l.map fun a => .bl (p a))]) Q = Q (.bl (l.any p)) := by
  show Wo ((boolsOf (l.map fun a => .bl (p a))).map fun bs => W.bl (bs.any id)) Q = _
  rw [bools_map]; show Q (.bl ((l.map p).any id)) = _; rw [List.any_map]; rfl
theorem sum_map {α : Type} {S : Store} {p : α → Int} {l : List α} {Q : W → Prop} : Wo (bltW S .sum [.lst (l.map fun a => .int (p a))]) Q = Q (.int (l.map p).sum) := by
  show Wo ((intsOf (l.map fun a => .int (p a))).map fun ns => .int ns.sum) Q = _
  rw [ints_map]; rfl
theorem list_c {w : W} {ws : List W} [h : SeqC w ws] {S : Store} {Q : W → Prop} : Wo (bltW S .list [w]) Q = Q (.lst ws) := by rcases h.h with e | e <;> (rw [e]; rfl)
theorem tuple_c {w : W} {ws : List W} [h : SeqC w ws] {S : Store} {Q : W → Prop} : Wo (bltW S .tuple [w]) Q = Q (.tup ws) := by rcases h.h with e | e <;> (rw [e]; rfl)
/-! ### comprehensions, loops -/
theorem wp_some {α : Type} {x : α} {S : Store} {Q : α → Store → Prop} : Wp (some (x, S)) Q = Q x S := rfl
section
variable {M : Sem} {env : Env} {S : Store} {α : Type}
theorem wg_maps {elt : Xp} {tg : Xt} {own : List Nat} {g h : α → W} {Q : List W → Store → Prop} : ∀ (xs : List α) (acc : List W), acc.length + xs.length ≤ 1000000 → (∀ x ∈ xs, Wp (asgT M tg (g x) (wipeE env own) S) fun e S1 => Wp (evE M elt e S1) fun y S2 => y = h x ∧ S2 = S) → Wg M elt tg .nil own env (xs.map g) acc S Q = Q (acc ++ xs.map h) S
  | [], acc, _, _ => by rw [List.map_nil, wg_nil, List.map_nil, List.append_nil]
  | x :: xs, acc, hl, hs => by
    rw [List.map_cons, wg_cons]
    obtain ⟨e, S1, e1, h1⟩ := (hs x List.mem_cons_self).ex
    obtain ⟨y, S2, e2, rfl, h3⟩ := h1.ex
    rw [h3] at e2
    rw [e1, wp_some, wts_nil, if_pos rfl, e2, wp_some]
    simp only [List.length_cons] at hl
    rw [wg_maps xs (acc ++ [h x]) (by simp; omega) fun z hz => hs z (List.mem_cons_of_mem _ hz), eq_true (show acc.length < PySem.sizeLine by rw [PySem.sizeLine_eq]; omega), true_and]
    simp
theorem wg_map' {elt : Xp} {tg : Xt} {own : List Nat} {g : α → W} (h : α → W) {Q : List W → Store → Prop} {xs : List α} {n : Nat} [hl : LenC xs n] (hs : ∀ x ∈ xs, Wp (asgT M tg (g x) (wipeE env own) S) fun e S1 => Wp (evE M elt e S1) fun y S2 => y = h x ∧ S2 = S) (hn : n ≤ 1000000) : Wg M elt tg .nil own env (xs.map g) [] S Q = Q (xs.map h) S := by
  have := hl.h
  rw [wg_maps (h := h) xs [] (by simp; omega) hs]; rfl
theorem wg_map {elt : Xp} {tg : Xt} {own : List Nat} {g : α → W} (h : α → W) {Q : List W → Store → Prop} {d : Dm Q} {xs : List α} {n : Nat} [hl : LenC xs n] (hs : ∀ x ∈ xs, Wp (asgT M tg (g x) (wipeE env own) S) fun e S1 => Wp (evE M elt e S1) fun y S2 => y = h x ∧ S2 = S) (hn : n ≤ 1000000) : Wg M elt tg .nil own env (xs.map g) [] S (hold Q d) = Q (xs.map h) S := wg_map' h hs hn
theorem wg_filts {elt : Xp} {tg : Xt} {own : List Nat} {ifs : Xps} {g h : α → W} {p : α → Bool} {Q : List W → Store → Prop} : ∀ (xs : List α) (acc : List W), acc.length + xs.length ≤ 1000000 → (∀ x ∈ xs, Wp (asgT M tg (g x) (wipeE env own) S) fun e S1 => Wp (evTs M ifs e S1) fun k S2 => k = p x ∧ (if p x = true then Wp (evE M elt e S2) fun y S3 => y = h x ∧ S3 = S else S2 = S)) → Wg M elt tg ifs own env (xs.map g) acc S Q = Q (acc ++ (xs.filter p).map h) S
  | [], acc, _, _ => by rw [List.map_nil, wg_nil, List.filter_nil, List.map_nil, List.append_nil]
  | x :: xs, acc, hl, hs => by
    rw [List.map_cons, wg_cons]
    obtain ⟨e, S1, e1, h1⟩ := (hs x List.mem_cons_self).ex
    obtain ⟨k, S2, e2, rfl, h2⟩ := h1.ex
    rw [e1, wp_some, e2, wp_some]
    simp only [List.length_cons] at hl
    by_cases hp : p x = true
    · rw [if_pos hp] at h2 ⊢
      obtain ⟨y, S3, e3, rfl, h4⟩ := h2.ex
      rw [h4] at e3
      rw [e3, wp_some, wg_filts xs (acc ++ [h x]) (by simp; omega) fun z hz => hs z (List.mem_cons_of_mem _ hz), eq_true (show acc.length < PySem.sizeLine by rw [PySem.sizeLine_eq]; omega), true_and, List.filter_cons_of_pos hp]
      simp
    · rw [if_neg hp] at h2 ⊢
      rw [h2, wg_filts xs acc (by omega) fun z hz => hs z (List.mem_cons_of_mem _ hz), List.filter_cons_of_neg hp]
theorem wg_filt' {elt : Xp} {tg : Xt} {own : List Nat} {ifs : Xps} {g : α → W} (p : α → Bool) (h : α → W) {Q : List W → Store → Prop} {xs : List α} {n : Nat} [hl : LenC xs n] (hs : ∀ x ∈ xs, Wp (asgT M tg (g x) (wipeE env own) S) fun e S1 => Wp (evTs M ifs e S1) fun k S2 => k = p x ∧ (if p x = true then Wp (evE M elt e S2) fun y S3 => y = h x ∧ S3 = S else S2 = S)) (hn : n ≤ 1000000) : Wg M elt tg ifs own env (xs.map g) [] S Q = Q ((xs.filter p).map h) S := by
  have := hl.h
  rw [wg_filts (h := h) (p := p) xs [] (by simp; omega) hs]; rfl
theorem wg_filt {elt : Xp} {tg : Xt} {own : List Nat} {ifs : Xps} {g : α → W} (p : α → Bool) (h : α → W) {Q : List W → Store → Prop} {d : Dm Q} {xs : List α} {n : Nat} [hl : LenC xs n] (hs : ∀ x ∈ xs, Wp (asgT M tg (g x) (wipeE env own) S) fun e S1 => Wp (evTs M ifs e S1) fun k S2 => k = p x ∧ (if p x = true then Wp (evE M elt e S2) fun y S3 => y = h x ∧ S3 = S else S2 = S)) (hn : n ≤ 1000000) : Wg M elt tg ifs own env (xs.map g) [] S (hold Q d) = Q ((xs.filter p).map h) S := wg_filt' p h hs hn
theorem wr_forL' {D : Dn} {g : α → W} {tg : W → Env → Store → Option (Env × Store)} {body : Env → Store → Option Rs} (I : List α → Env → Store → Prop) (hs : ∀ x xs env S, I (x :: xs) env S → Wp (tg (g x) env S) fun e S1 => Wr (body e S1) { nx := I xs, ct := I xs, bk := D.nx, rt := D.rt }) (he : ∀ env S, I [] env S → D.nx env S) :
    ∀ xs env S, I xs env S → Wr (forGo tg body (xs.map g) env S) D
  | [], env, S, h => by rw [List.map_nil, wr_forNil]; exact he env S h
  | x :: xs, env, S, h => by
    rw [List.map_cons, wr_forCons]
    refine (hs x xs env S h).mono fun e S1 h1 => h1.mono (fun e S h2 => wr_forL' I hs he xs e S h2) (fun _ _ z => z) (fun _ _ z => z) (fun e S h2 => wr_forL' I hs he xs e S h2)
theorem wr_forL {D : Dn} {d : Dm D} {g : α → W} {tg : W → Env → Store → Option (Env × Store)} {body : Env → Store → Option Rs} (I : List α → Env → Store → Prop) (hs : ∀ x xs env S, I (x :: xs) env S → Wp (tg (g x) env S) fun e S1 => Wr (body e S1) { nx := I xs, ct := I xs, bk := D.nx, rt := D.rt }) (he : ∀ env S, I [] env S → D.nx env S) (xs : List α) (env : Env) (S : Store) (h : I xs env S) : Wr (forGo tg body (xs.map g) env S) (hold D d) := wr_forL' I hs he xs env S h
/-- a comprehension whose turns change the store -/
theorem wg_st' {elt : Xp} {tg : Xt} {own : List Nat} {g : α → W} {Q : List W → Store → Prop} (I : Store → Prop) (P : α → W → Prop) (hs : ∀ x S, I S → Wp (asgT M tg (g x) (wipeE env own) S) fun e S1 => Wp (evE M elt e S1) fun y S2 => P x y ∧ I S2) : ∀ (xs : List α) (acc : List W) (S : Store), acc.length + xs.length ≤ 1000000 → I S → (∀ ys S', ys.length = xs.length → (∀ y ∈ ys, ∃ x ∈ xs, P x y) → I S' → Q (acc ++ ys) S') → Wg M elt tg .nil own env (xs.map g) acc S Q
  | [], acc, S, _, hi, q => by
    rw [List.map_nil, wg_nil]
    have := q [] S rfl (fun _ h => nomatch h) hi
    rwa [List.append_nil] at this
  | x :: xs, acc, S, hl, hi, q => by
    rw [List.map_cons, wg_cons]
    simp only [List.length_cons] at hl
    refine (hs x S hi).mono fun e S1 h1 => ?_
    rw [wts_nil, if_pos rfl]
    refine h1.mono fun y S2 ⟨h2, h3⟩ => ⟨by rw [PySem.sizeLine_eq]; omega, ?_⟩
    refine wg_st' I P hs xs (acc ++ [y]) S2 (by simp; omega) h3 fun ys S' e1 e2 e3 => ?_
    have := q (y :: ys) S' (by simp [e1]) (fun z hz => by
      rcases List.mem_cons.mp hz with rfl | hz
      · exact ⟨x, List.mem_cons_self, h2⟩
      · obtain ⟨a, b, c⟩ := e2 z hz
        exact ⟨a, List.mem_cons_of_mem _ b, c⟩) e3
    simpa using this
theorem wg_st {elt : Xp} {tg : Xt} {own : List Nat} {g : α → W} {Q : List W → Store → Prop} {d : Dm Q} (I : Store → Prop) (P : α → W → Prop) (hs : ∀ x S, I S → Wp (asgT M tg (g x) (wipeE env own) S) fun e S1 => Wp (evE M elt e S1) fun y S2 => P x y ∧ I S2) (xs : List α) {n : Nat} [hl : LenC xs n] (hn : n ≤ 1000000) (hi : I S) (q : ∀ ys S', ys.length = xs.length → (∀ y ∈ ys, ∃ x ∈ xs, P x y) → I S' → Q ys S') : Wg M elt tg .nil own env (xs.map g) [] S (hold Q d) :=
  wg_st' I P hs xs [] S (by have := hl.h; simp; omega) hi q
end
def dn_Ex2 : List Lean.Name := [`tt_rq, `oc_eq, `oc_ne, `wp_some]
def up_Ex2 : List Lean.Name := [`size_len, `size_len2, `size_lt, `size_lit, `size_lit', `seqOf_c, `len_c, `sub_c, `isi_c, `os_q0, `os_q1, `oi_q, `oi_qi, `oi_qb, `same_c, `eqv_int, `eqv_bl, `eqv_str, `eqv_rq, `eqv_rqs, `eqv_ints, `zip_map2, `zip_cons2, `zip_nil2, `zip_nil3, `range_map, `enum_map, `all_map, `any_map, `sum_map, `list_c, `tuple_c]
end Rf

namespace Rf
theorem row_ex {ws : List W} {qs : List Rat} (h : Row ws qs) : ∃ ns : List Num, ws = ns.map Num.w ∧ qs = ns.map Num.q := by
  induction h with
  | nil => exact ⟨[], rfl, rfl⟩
  | @cons w q ws qs a _ ih =>
    obtain ⟨ns, rfl, rfl⟩ := ih
    obtain ⟨n, rfl, rfl⟩ := num_ex a
    exact ⟨n :: ns, rfl, rfl⟩
instance row_len {ws : List W} {qs : List Rat} {n : Nat} [h : RowC ws qs] [h' : LenC qs n] : LenC ws n := ⟨by rw [h.h.length]; exact h'.h⟩
theorem szb_of {q : Rat} {qs : List Rat} {n : Nat} [h : Szl qs n] (i : q ∈ qs) : Szb q n := ⟨h.h q i⟩
theorem szb_num {x : Num} {ns : List Num} {n : Nat} [h : Szl (ns.map Num.q) n] (i : x ∈ ns) : Szb x.q n := ⟨h.h _ (List.mem_map.mpr ⟨x, i, rfl⟩)⟩
/-! ### rows of whole numbers -/
class Szi (l : List Int) (n : outParam Nat) : Prop where
  h : ∀ x ∈ l, Sz n x
theorem siz_of {q : Int} {qs : List Int} {n : Nat} [h : Szi qs n] (i : q ∈ qs) : Siz q n := ⟨h.h q i⟩
instance siz_sum {l : List Int} {n m : Nat} [h : Szi l n] [h' : LenC l m] : Siz l.sum (n + m) := ⟨(sz_sum l h.h).up (by have := h'.h; omega)⟩
instance siz_lcm {qs : List Rat} {n m : Nat} [h : Szl qs n] [h' : LenC qs m] : Siz ((lcmD 1 qs : Nat) : Int) (1 + n * m) := ⟨(lcmD_sz qs 1 1 h.h (by unfold Sz; decide)).up (Nat.add_le_add_left (Nat.mul_le_mul_left n h'.h) 1)⟩
theorem lcm_ne {qs : List Rat} : ((lcmD 1 qs : Nat) : Int) ≠ 0 := by have := lcmD_pos qs 1 (by omega); omega
instance len_tops {qs : List Rat} {c n : Nat} [h : LenC qs n] : LenC (topsD c qs) n := ⟨by unfold topsD; rw [List.length_map]; exact h.h⟩
theorem sz_fdivn {n c d : Nat} (h : Sz n (c : Int)) : Sz n ((c : Int).fdiv (d : Int)) := by
  rw [Int.fdiv_eq_ediv_of_nonneg _ (by omega), ← Int.natCast_ediv]
  unfold Sz at *
  rw [Int.natAbs_natCast] at *
  exact Nat.lt_of_le_of_lt (Nat.div_le_self _ _) h
instance szi_tops {qs : List Rat} {n m c : Nat} [h : Szl qs n] [h' : Siz (c : Int) m] : Szi (topsD c qs) (n + m) := ⟨fun x hx => by
  obtain ⟨q, hq, rfl⟩ := List.mem_map.mp hx
  exact (h.h q hq).1.mul (sz_fdivn h'.h)⟩
theorem sum_ints {S : Store} {l : List Int} {Q : W → Prop} : Wo (bltW S .sum [.lst (l.map W.int)]) Q = Q (.int l.sum) := by
  have := sum_map (S := S) (p := fun x : Int => x) (l := l) (Q := Q)
  rw [List.map_id'] at this
  exact this
theorem tops_low {qs : List Rat} : Rat.divInt (topsD (lcmD 1 qs) qs).sum ((lcmD 1 qs : Nat) : Int) = qs.sum := tops_sum (lcmD_pos qs 1 (by omega)) qs fun q hq => (lcmD_dvd qs 1).2 q hq
instance szi_zmul {l r : List Int} {n m : Nat} [h : Szi l n] [h' : Szi r m] : Szi ((l.zip r).map fun a : Int × Int => a.1 * a.2) (n + m) := ⟨fun x hx => by
  obtain ⟨p, hp, rfl⟩ := List.mem_map.mp hx
  exact (h.h _ (List.of_mem_zip hp).1).mul (h'.h _ (List.of_mem_zip hp).2)⟩
theorem dot_low {qs rs : List Rat} : Rat.divInt (((topsD (lcmD 1 qs) qs).zip (topsD (lcmD 1 rs) rs)).map fun a : Int × Int => a.1 * a.2).sum (((lcmD 1 qs : Nat) : Int) * ((lcmD 1 rs : Nat) : Int)) = dotQ qs rs := dot_sum (lcmD_pos qs 1 (by omega)) (lcmD_pos rs 1 (by omega)) qs rs (fun q hq => (lcmD_dvd qs 1).2 q hq) fun q hq => (lcmD_dvd rs 1).2 q hq
theorem zipW_zip {α β γ : Type} {f : α → β → γ} : ∀ {l : List α} {r : List β}, List.zipWith f l r = (l.zip r).map fun p => f p.1 p.2
  | [], _ => by simp
  | _ :: _, [] => by simp
  | a :: l, b :: r => by simp [zipW_zip (l := l) (r := r)]
theorem wo_lcm {S : Store} {a b : Int} {Q : W → Prop} (h : a.natAbs.log2 < 13000 ∧ b.natAbs.log2 < 13000) : Wo (bltW S .lcm [.int a, .int b]) Q = Q (.int (a.natAbs.lcm b.natAbs : Nat)) := by
  rw [ol_lcm, eq_true h, true_and]
/-! ### pots -/
def PotOk (a b : Int) : Prop := 0 ≤ a ∧ 0 ≤ b ∧ b < 2 ^ 40
/-- the pot is the first cell, the others are T -/
def PotS (T S : Store) : Prop := ∃ a b : Int, PotOk a b ∧ S = some [.int a, .int b] :: T
theorem pot_fr {T S : Store} {a b : Int} (h : Fr 0 (some [.int a, .int b] :: T) S) (hp : Pot 0 S) : PotS T S := by
  obtain ⟨p, q, e, h1, h2, h3⟩ := hp
  obtain ⟨h4, h5⟩ := h
  refine ⟨p, q, ⟨h1, h2, h3⟩, ?_⟩
  cases S with
  | nil => cases e
  | cons s S =>
    have e : s = some [.int p, .int q] := by cases s with | none => cases e | some _ => exact e
    subst e
    congr 1
    refine List.ext_getElem? fun i => ?_
    have := h5 (i + 1) (by omega)
    simpa using this
theorem pot_ok {T : Store} {a b : Int} (h : PotOk a b) : Pot 0 (some [.int a, .int b] :: T) := ⟨a, b, rfl, h⟩
theorem PotS.pot {T S : Store} (h : PotS T S) : Pot 0 S := by obtain ⟨a, b, h, rfl⟩ := h; exact pot_ok h
theorem lt62 {x : Int} (h : -4611686018427387904 ≤ x ∧ x < 4611686018427387904) : (-4611686018427387904 ≤ x ∧ x < 4611686018427387904) = True := eq_true h
theorem nums_of {n : Nat} : ∀ {ys : List W}, (∀ y ∈ ys, ∃ x : Num, y = x.w ∧ Rz n x.q) → ∃ xs : List Num, ys = xs.map Num.w ∧ Rzs n (xs.map Num.q)
  | [], _ => ⟨[], rfl, fun _ h => nomatch h⟩
  | y :: ys, h => by
    obtain ⟨x, rfl, hx⟩ := h y List.mem_cons_self
    obtain ⟨xs, rfl, hxs⟩ := nums_of fun z hz => h z (List.mem_cons_of_mem _ hz)
    refine ⟨x :: xs, rfl, fun q hq => ?_⟩
    rcases List.mem_cons.mp hq with rfl | hq
    · exact hx
    · exact hxs q hq
/-! ### lent cells -/
mutual
theorem deref_free {S : Store} : ∀ {w : W}, w.free = true → W.deref S w = some w
  | .non, _ => by unfold W.deref; rfl
  | .bl _, _ => by unfold W.deref; rfl
  | .int _, _ => by unfold W.deref; rfl
  | .str _, _ => by unfold W.deref; rfl
  | .edict, _ => by unfold W.deref; rfl
  | .tup xs, h => by unfold W.deref; rw [derefs_free (show W.frees xs = true from h)]
  | .lst xs, h => by unfold W.deref; rw [derefs_free (show W.frees xs = true from h)]
  | .ro xs, h => by unfold W.deref; rw [if_pos (show W.frees xs = true from h)]
  | .loc _, h => nomatch h
theorem derefs_free {S : Store} : ∀ {ws : List W}, W.frees ws = true → W.derefs S ws = some ws
  | [], _ => by unfold W.derefs; rfl
  | w :: ws, h => by
    have h : (w.free && W.frees ws) = true := h
    rw [Bool.and_eq_true] at h
    unfold W.derefs; rw [deref_free h.1, derefs_free h.2]
end
section
variable {L : List Dt} {con : Nat → W} {fuel k f d : Nat} {M : Sem} {ds es : List W} {S : Store} {v : W} {Q : W → Store → Prop}
theorem Fn.lent (h : Fn L con fuel d f es (· = v)) (hM : HM L con fuel M k) (hk : d ≤ k) (hv : v.scalar = true) (hr : ((tblOf L)[f]?).any (·.fr) = false) (hd : W.derefs S ds = some es) (hf : W.frees ds = false) : Wk M f ds S Q = Q v S := by
  obtain ⟨w, S1, e, h1, h2⟩ := (hM.call _ _ _ _ (h.up hk)).ex
  subst h2
  unfold Wk pureCall
  rw [if_neg (by rw [hf]; exact Bool.false_ne_true)]
  unfold lentCall
  rw [hd]
  dsimp only
  rw [e]
  dsimp only
  rw [if_pos ⟨hv, by rw [hM.fr]; exact hr⟩]; rfl
end
theorem lent2 {n : Nat} {S : Store} {xs : List W} {w : W} (h : (S[n]?).join = some xs) (hx : W.frees xs = true) (hw : w.free = true) : W.derefs S [.loc n, w] = some [.lst xs, w] := by
  unfold W.derefs
  rw [show W.deref S (.loc n) = some (.lst xs) from by unfold W.deref; rw [h]; dsimp only; rw [if_pos hx]]
  rw [derefs_free (show W.frees [w] = true by show (w.free && true) = true; rw [hw]; rfl)]
theorem mul_one {S : Store} {x : W} {b : Int} {Q : W → Prop} (h : -1000000 ≤ b ∧ b ≤ 1000000) : Wo (binW S .mul (.lst [x]) (.int b)) Q = Q (.lst (List.replicate b.toNat x)) := by
  show Wo (if -(2 ^ 63) ≤ b ∧ b < 2 ^ 63 ∧ [x].length * b.toNat ≤ PySem.sizeLine then some (W.lst (List.replicate b.toNat [x]).flatten) else none) Q = _
  rw [if_pos ⟨by omega, by omega, by rw [PySem.sizeLine_eq]; simp only [List.length_cons, List.length_nil]; omega⟩]
  rw [show (List.replicate b.toNat [x]).flatten = List.replicate b.toNat x from ?_]
  · rfl
  · generalize b.toNat = n
    induction n with
    | zero => rfl
    | succ n ih => rw [List.replicate_succ, List.flatten_cons, ih]; rfl
theorem dotQ_comm : ∀ qs rs : List Rat, dotQ qs rs = dotQ rs qs
  | [], rs => by simp [dotQ]
  | _ :: _, [] => by simp [dotQ]
  | q :: qs, r :: rs => by
    have := dotQ_comm qs rs
    unfold dotQ at *
    simp only [List.zip_cons_cons, List.map_cons, List.sum_cons, this]
    grind
/-! ### numbers that are no numbers of the law -/
theorem cut_1 {α : Type} {x : α} {xs : List α} : cutG (x :: xs) (some 1) none = xs := cut1 x xs
def dn_Ex3 : List Lean.Name := [`mul_one]
def up_Ex3 : List Lean.Name := [`sum_ints, `tops_low, `dot_low, `lt62, `cut_1]
end Rf

namespace Rf
open PySem PySem.Spec
/-! ### repr -/
theorem leaves_up {B B' : Nat} (h : B ≤ B') : ∀ d : PyData, d.leavesShort B = true → d.leavesShort B' = true := by
  have hi : ∀ i : Int, (PyData.int i).leavesShort B = true → (PyData.int i).leavesShort B' = true := fun i q => by
    simp only [PyData.leavesShort, decide_eq_true_eq] at q ⊢; omega
  refine PyData.rec (motive_1 := fun d => d.leavesShort B = true → d.leavesShort B' = true) (motive_2 := fun l => PyData.leavesShortAll B l = true → PyData.leavesShortAll B' l = true) (motive_3 := fun l => PyData.leavesShortKv B l = true → PyData.leavesShortKv B' l = true) (motive_4 := fun p => p.1.leavesShort B = true ∧ p.2.leavesShort B = true → p.1.leavesShort B' = true ∧ p.2.leavesShort B' = true) ?_ ?_ ?_ ?_ ?_ ?_ ?_ ?_ ?_ ?_ ?_ ?_
  all_goals first
    | (intro _ q; exact q)
    | (intro q; exact q)
    | skip
  all_goals first
    | (intro i q; exact hi i q)
    | (intro a ih q; simp only [PyData.leavesShort] at q ⊢; exact ih q)
    | (intro a b ih1 ih2 q; simp only [PyData.leavesShortAll, PyData.leavesShortKv, Bool.and_eq_true] at q ⊢; exact ⟨ih1 q.1, ih2 q.2⟩)
    | (intro a b ih1 ih2 q; exact ⟨ih1 q.1, ih2 q.2⟩)
    | (intro a b ih1 ih2 q; simp only [PyData.leavesShortAll, PyData.leavesShortKv, Bool.and_eq_true] at q ⊢; have := ih1 q.1; exact ⟨this, ih2 q.2⟩)
theorem ok_up : ∀ {n n' : Nat} {w : W}, n ≤ n' → W.ok n w = true → W.ok n' w = true := by
  intro n
  induction n with
  | zero =>
    intro n' w _ h
    cases w <;> first | (cases n' <;> rfl) | (simp [W.ok] at h)
  | succ n ih =>
    intro n' w i h
    obtain ⟨k, rfl⟩ : ∃ k, n' = k + 1 := ⟨n' - 1, by omega⟩
    have all : ∀ l : List W, W.oks n l = true → W.oks k l = true := fun l => by
      induction l with
      | nil => intro _; rfl
      | cons a l ih2 =>
        intro h
        have h : (a.ok n && W.oks n l) = true := h
        rw [Bool.and_eq_true] at h
        show (a.ok k && W.oks k l) = true
        rw [ih (by omega) h.1, ih2 h.2]; rfl
    cases w with
    | tup xs => exact all xs h
    | lst xs => exact all xs h
    | non => rfl
    | bl b => rfl
    | int i => rfl
    | str x => rfl
    | ro xs => simp [W.ok] at h
    | loc m => simp [W.ok] at h
    | edict => simp [W.ok] at h
def Shw (B n m : Nat) (w : W) : Prop := W.ok n w = true ∧ (B ≤ 1900 → w.py.showable = true) ∧ w.py.hasDict = false ∧ w.py.leavesShort (B + 8) = true ∧ w.py.bulk ≤ m
def Shws (B n m : Nat) (ws : List W) : Prop := W.oks n ws = true ∧ (B ≤ 1900 → PyData.showableAll (W.pys ws) = true) ∧ PyData.hasDictAll (W.pys ws) = false ∧ PyData.leavesShortAll (B + 8) (W.pys ws) = true ∧ PyData.bulkAll (W.pys ws) ≤ m
theorem Shw.up {B n m B' n' m' : Nat} {w : W} (h : Shw B n m w) (i : B ≤ B') (j : n ≤ n') (k : m ≤ m') : Shw B' n' m' w := ⟨ok_up j h.1, fun l => h.2.1 (by omega), h.2.2.1, leaves_up (by omega) _ h.2.2.2.1, Nat.le_trans h.2.2.2.2 k⟩
theorem shws_nil {B n m : Nat} : Shws B n m [] := ⟨rfl, fun _ => rfl, rfl, rfl, Nat.zero_le _⟩
theorem shws_cons {B n m m' : Nat} {w : W} {ws : List W} (h : Shw B n m w) (h' : Shws B n m' ws) : Shws B n (m + m' + 1) (w :: ws) := by
  obtain ⟨a1, a2, a3, a4, a5⟩ := h
  obtain ⟨b1, b2, b3, b4, b5⟩ := h'
  refine ⟨?_, fun i => ?_, ?_, ?_, ?_⟩
  · show (w.ok n && W.oks n ws) = true; rw [a1, b1]; rfl
  · show (w.py.showable && PyData.showableAll (W.pys ws)) = true; rw [a2 i, b2 i]; rfl
  · show (w.py.hasDict || PyData.hasDictAll (W.pys ws)) = false; rw [a3, b3]; rfl
  · show (w.py.leavesShort (B + 8) && PyData.leavesShortAll (B + 8) (W.pys ws)) = true; rw [a4, b4]; rfl
  · show w.py.bulk + 1 + PyData.bulkAll (W.pys ws) ≤ _; omega
theorem Shws.up {B n m B' n' m' : Nat} {ws : List W} (h : Shws B n m ws) (i : B ≤ B') (j : n ≤ n') (k : m ≤ m') : Shws B' n' m' ws := by
  have h1 : Shw B (n + 1) m (.lst ws) := ⟨h.1, h.2.1, h.2.2.1, h.2.2.2.1, h.2.2.2.2⟩
  exact h1.up i (Nat.succ_le_succ j) k
theorem shw_lst {B n m : Nat} {ws : List W} (h : Shws B n m ws) : Shw B (n + 1) m (.lst ws) := ⟨h.1, h.2.1, h.2.2.1, h.2.2.2.1, h.2.2.2.2⟩
theorem shw_tup {B n m : Nat} {ws : List W} (h : Shws B n m ws) : Shw B (n + 1) m (.tup ws) := ⟨h.1, h.2.1, h.2.2.1, h.2.2.2.1, h.2.2.2.2⟩
theorem shw_int {i : Int} {s n m : Nat} (h : Sz s i) : Shw s n m (.int i) := by
  refine ⟨by cases n <;> rfl, fun l => ?_, rfl, ?_, Nat.zero_le _⟩
  · show decide (i.natAbs.log2 < 1920) = true
    rw [decide_eq_true_eq]; have := h.log; omega
  · show decide ((PyData.shown (.int i)).length ≤ s + 8) = true
    rw [decide_eq_true_eq]
    have e := int_text_length_le10 (a := i) (k := s + 1) (by omega) (Nat.lt_of_lt_of_le h (Nat.le_trans (Nat.pow_le_pow_left (by omega : 2 ≤ 10) s) (Nat.pow_le_pow_right (by omega) (by omega))))
    show (Str.ofString (toString i)).length ≤ s + 8
    rw [ofString_length]; omega
theorem shw_rq {q : Rat} {s : Nat} (h : Rz s q) : Shw s 1 2 (rq q) := shw_tup (n := 0) (shws_cons (m := 0) (m' := 1) (shw_int h.1) (shws_cons (m := 0) (m' := 0) (shw_int h.2) shws_nil))
theorem shws_map {α : Type} {f : α → W} {B n m : Nat} : ∀ {l : List α}, (∀ a ∈ l, Shw B n m (f a)) → Shws B n ((m + 1) * l.length) (l.map f)
  | [], _ => shws_nil.up (Nat.le_refl _) (Nat.le_refl _) (Nat.zero_le _)
  | a :: l, h => (shws_cons (h a List.mem_cons_self) (shws_map fun x hx => h x (List.mem_cons_of_mem _ hx))).up (Nat.le_refl _) (Nat.le_refl _) (by rw [List.length_cons, Nat.mul_succ]; omega)
class ShwC (w : W) (B n m : outParam Nat) : Prop where
  h : Shw B n m w
class ShwL (ws : List W) (B n m : outParam Nat) : Prop where
  h : Shws B n m ws
instance shwc_non : ShwC .non 0 0 0 := ⟨rfl, fun _ => rfl, rfl, rfl, Nat.le_refl _⟩
instance shwc_bl {b : Bool} : ShwC (.bl b) 0 0 0 := ⟨rfl, fun _ => rfl, rfl, rfl, Nat.le_refl _⟩
instance shwc_int {i : Int} {s : Nat} [h : Siz i s] : ShwC (.int i) s 0 0 := ⟨shw_int h.h⟩
instance shwc_rq {q : Rat} {s : Nat} [h : Szb q s] : ShwC (rq q) s 1 2 := ⟨shw_rq h.h⟩
theorem shw_num {x : Num} {s : Nat} (h : Rz s x.q) : Shw s 1 2 x.w := match x, h with
  | .int i, h => shw_int h.1
  | .rat q, h => shw_rq h
instance shwc_num {x : Num} {s : Nat} [h : Szb x.q s] : ShwC x.w s 1 2 := ⟨shw_num h.h⟩
instance shwc_lst {ws : List W} {B n m : Nat} [h : ShwL ws B n m] : ShwC (.lst ws) B (n + 1) m := ⟨shw_lst h.h⟩
instance shwc_tup {ws : List W} {B n m : Nat} [h : ShwL ws B n m] : ShwC (.tup ws) B (n + 1) m := ⟨shw_tup h.h⟩
instance shwl_nil : ShwL [] 0 0 0 := ⟨shws_nil⟩
instance shwl_cons {w : W} {ws : List W} {B n m B' n' m' : Nat} [h : ShwC w B n m] [h' : ShwL ws B' n' m'] : ShwL (w :: ws) (B + B') (n + n') (m + m' + 1) := ⟨shws_cons (h.h.up (by omega) (by omega) (Nat.le_refl _)) (h'.h.up (by omega) (by omega) (Nat.le_refl _))⟩
instance shwl_rqs {qs : List Rat} {s l : Nat} [h : Szl qs s] [h' : LenC qs l] : ShwL (qs.map rq) s 1 (3 * l) := ⟨(shws_map fun q hq => shw_rq (h.h q hq)).up (Nat.le_refl _) (Nat.le_refl _) (Nat.mul_le_mul_left _ h'.h)⟩
instance shwl_nums {ns : List Num} {s l : Nat} [h : Szl (ns.map Num.q) s] [h' : LenC ns l] : ShwL (ns.map Num.w) s 1 (3 * l) := ⟨(shws_map fun x hx => shw_num (h.h _ (List.mem_map.mpr ⟨x, hx, rfl⟩))).up (Nat.le_refl _) (Nat.le_refl _) (Nat.mul_le_mul_left _ h'.h)⟩
theorem shw_seq {w : W} {ws : List W} {B n m : Nat} (h0 : w = .lst ws ∨ w = .tup ws) (h : Shws B n m ws) : Shw B (n + 1) m w := by
  rcases h0 with rfl | rfl
  · exact shw_lst h
  · exact shw_tup h
instance shwc_seq {w : W} {ws : List W} {B n m : Nat} [h0 : SeqC w ws] [h : ShwL ws B n m] : ShwC w B (n + 1) m := ⟨shw_seq h0.h h.h⟩
theorem shown_fits {w : W} {B n m : Nat} (h : Shw B n m w) (hB : B ≤ 1900) (hn : n ≤ 40) (hm : (B + 10) * m + (B + 8) ≤ 16000000) : W.ok 40 w = true ∧ w.py.showable = true ∧ w.py.hasDict = false ∧ w.py.shown.length ≤ sizeLine := by
  refine ⟨ok_up hn h.1, h.2.1 hB, h.2.2.1, ?_⟩
  have e := PyData.shown_le_bulk (B + 8) (by omega) _ h.2.2.2.1
  have := Nat.mul_le_mul_left (B + 8 + 2) h.2.2.2.2
  rw [sizeLine_eq]
  have e2 : (B + 8 + 2) * m = (B + 10) * m := rfl
  omega
theorem repr_l {ws : List W} {B n m : Nat} [h : ShwC (.lst ws) B n m] {Q : W → Prop} (hB : B ≤ 1900) (hn : n ≤ 40) (hm : (B + 10) * m + (B + 8) ≤ 16000000) : Wo (reprW (.lst ws)) Q = Q (.str (W.lst ws).py.shown) := by
  show Wo (if W.ok 40 (.lst ws) = true ∧ (W.lst ws).py.showable = true ∧ (W.lst ws).py.hasDict = false ∧ (W.lst ws).py.shown.length ≤ sizeLine then some (W.str (W.lst ws).py.shown) else none) Q = _
  rw [if_pos (shown_fits h.h hB hn hm)]; rfl
theorem repr_t {ws : List W} {B n m : Nat} [h : ShwC (.tup ws) B n m] {Q : W → Prop} (hB : B ≤ 1900) (hn : n ≤ 40) (hm : (B + 10) * m + (B + 8) ≤ 16000000) : Wo (reprW (.tup ws)) Q = Q (.str (W.tup ws).py.shown) := by
  show Wo (if W.ok 40 (.tup ws) = true ∧ (W.tup ws).py.showable = true ∧ (W.tup ws).py.hasDict = false ∧ (W.tup ws).py.shown.length ≤ sizeLine then some (W.str (W.tup ws).py.shown) else none) Q = _
  rw [if_pos (shown_fits h.h hB hn hm)]; rfl
def dn_Ex4 : List Lean.Name := []
def up_Ex4 : List Lean.Name := [`repr_l, `repr_t]
end Rf

namespace Rf
open Lean
def dnL : List Name := dn_Ev1 ++ dn_Ev2 ++ dn_Ev3a ++ dn_Ev3c ++ dn_Ex1 ++ dn_Ex2 ++ dn_Ex3 ++ dn_Ex4
def upL : List Name := up_Ev1 ++ up_Ev2 ++ up_Ev3a ++ up_Ev3c ++ up_Ex1 ++ up_Ex2 ++ up_Ex3 ++ up_Ex4
/-- the walker: simp by these lemmas ahead of the parts, those behind -/
def walkS (ds us : List Name) : MacroM (TSyntax `tactic) := do
  let mut l : Array (TSyntax `Lean.Parser.Tactic.simpLemma) := #[]
  for n in ds ++ dnL do l := l.push (← `(Lean.Parser.Tactic.simpLemma| ↓ $(mkIdent n):ident))
  for n in us ++ upL do l := l.push (← `(Lean.Parser.Tactic.simpLemma| $(mkIdent n):ident))
  `(tactic| simp (disch := walk_at "d") only [$l,*, List.map_cons, List.map_nil, x_con, x_whl, x_fr, wipeE, arrange, ↓reduceIte, reduceCtorEq, Nat.reduceAdd, Nat.reduceMul, Nat.reduceSub, Nat.reduceLT, Nat.reduceLeDiff, Nat.reduceEqDiff, Nat.reducePow, Int.reduceAdd, Int.reduceMul, Int.reduceSub, Int.reduceNeg, Int.reduceLT, Int.reduceLE, Int.reduceEq, Int.reduceNe, Int.reducePow, Int.reduceToNat, Int.toNat_natCast, Int.natCast_eq_zero, Int.cast_ofNat_Int, List.length_cons, List.length_nil, List.length_map, List.set_cons_zero, List.set_cons_succ, List.getElem?_cons_zero, List.getElem?_cons_succ, List.nil_append, List.cons_append, List.append_nil, List.replicate_succ, List.replicate_zero, List.append_assoc, List.isEmpty_nil, List.isEmpty_cons, Option.join_some, Option.isSome_some, true_and, and_true, and_self, false_and, and_false, Bool.not_true, Bool.not_false, Bool.not_not, Bool.and_true, Bool.and_false, Bool.true_and, Bool.false_and, Bool.or_true, Bool.or_false, decide_true, decide_false, decide_eq_true_eq, not_true_eq_false, not_false_eq_true, ne_eq, Bool.false_eq_true, Bool.true_eq_false, bne_self_eq_false, beq_self_eq_true, Int.zero_add])
end Rf

namespace K12
open PySem PySem.Spec L2 Rf

abbrev prg : Program := PySem.Challenge.pw_standsmore_k12_whole_rows
def top (i : Nat) : Stmt := prg.main.body.getD i (.Pass ⟨0, 0, 0, 0⟩)
abbrev i_is_integer : Nat := 0
abbrev i_is_list : Nat := 1
abbrev i_is_ratio : Nat := 2
abbrev i_is_number : Nat := 3
abbrev i_made : Nat := 4
abbrev i_pair_of : Nat := 5
abbrev i_common : Nat := 6
abbrev i_cleared_of : Nat := 7
abbrev i_r_plus : Nat := 8
abbrev i_r_times : Nat := 9
abbrev i_compared_of : Nat := 10
abbrev i_r_total : Nat := 11
abbrev i_r_dot : Nat := 12
abbrev i_first_of : Nat := 13
abbrev i_is_row : Nat := 14
abbrev i_check_row : Nat := 15
abbrev i_check_rows : Nat := 16
abbrev i_total : Nat := 17
abbrev i_least_of : Nat := 18
abbrev i_greatest_of : Nat := 19
abbrev i_dot : Nat := 20
abbrev i_added : Nat := 21
abbrev i_scaled : Nat := 22
abbrev i_square : Nat := 23
abbrev i__law_pot : Nat := 24
abbrev i__law_draw : Nat := 25
abbrev i__law_same : Nat := 26
abbrev i__law_made : Nat := 27
abbrev i__law_pair : Nat := 28
abbrev i__law_plus : Nat := 29
abbrev i__law_times : Nat := 30
abbrev i__law_is_less : Nat := 31
abbrev i__law_sum : Nat := 32
abbrev i__law_dot : Nat := 33
abbrev i__law_great : Nat := 34
abbrev i__law_number : Nat := 35
abbrev i__law_least : Nat := 36
abbrev i__law_lists_right : Nat := 37
abbrev i_law : Nat := 38
/-- is_integer -/
def D_is_integer : He.DefD := ⟨("is_integer", none), "is_integer", "is_integer", defArgs (top 2), defBody (top 2), defScope (top 2), [], []⟩
abbrev b_is_integer : Sms := (.cons (.ret (.andd (.isi (.var 0) ["int"]) (.nott (.isi (.var 0) ["bool"])))) .nil)
abbrev q_is_integer : Dt := ⟨⟨1, 1, false, b_is_integer⟩, D_is_integer, [("value" : Str)], [("value" : Str)]⟩
/-- is_list -/
def D_is_list : He.DefD := ⟨("is_list", none), "is_list", "is_list", defArgs (top 3), defBody (top 3), defScope (top 3), [], []⟩
abbrev b_is_list : Sms := (.cons (.ret (.isi (.var 0) ["list", "tuple"])) .nil)
abbrev q_is_list : Dt := ⟨⟨1, 1, false, b_is_list⟩, D_is_list, [("value" : Str)], [("value" : Str)]⟩
/-- is_ratio -/
def D_is_ratio : He.DefD := ⟨("is_ratio", none), "is_ratio", "is_ratio", defArgs (top 4), defBody (top 4), defScope (top 4), [], []⟩
abbrev b_is_ratio : Sms := (.cons (.iff (.orr (.nott (.isi (.var 0) ["tuple"])) (.orr (.cmp .ne (.blt .len (.cons (.var 0) .nil)) (.cst (.int 2))) (.orr (.nott (.call i_is_integer (.cons (.sub (.var 0) (.cst (.int 0))) .nil))) (.nott (.call i_is_integer (.cons (.sub (.var 0) (.cst (.int 1))) .nil)))))) (.cons (.ret (.cst (.bl false))) .nil) .nil) (.cons (.ret (.andd (.cmp .gt (.sub (.var 0) (.cst (.int 1))) (.cst (.int 0))) (.cmp .eq (.blt .gcd (.cons (.sub (.var 0) (.cst (.int 0))) (.cons (.sub (.var 0) (.cst (.int 1))) .nil))) (.cst (.int 1))))) .nil))
abbrev q_is_ratio : Dt := ⟨⟨1, 1, false, b_is_ratio⟩, D_is_ratio, [("value" : Str)], [("value" : Str)]⟩
/-- is_number -/
def D_is_number : He.DefD := ⟨("is_number", none), "is_number", "is_number", defArgs (top 5), defBody (top 5), defScope (top 5), [], []⟩
abbrev b_is_number : Sms := (.cons (.ret (.orr (.call i_is_integer (.cons (.var 0) .nil)) (.call i_is_ratio (.cons (.var 0) .nil)))) .nil)
abbrev q_is_number : Dt := ⟨⟨1, 1, false, b_is_number⟩, D_is_number, [("value" : Str)], [("value" : Str)]⟩
/-- made -/
def D_made : He.DefD := ⟨("made", none), "made", "made", defArgs (top 13), defBody (top 13), defScope (top 13), [], []⟩
abbrev b_made : Sms := (.cons (.asg (.name 2) (.blt .gcd (.cons (.var 0) (.cons (.var 1) .nil)))) (.cons (.asg (.name 2) (.ite (.cmp .gt (.var 1) (.cst (.int 0))) (.var 2) (.bin .sub (.cst (.int 0)) (.var 2)))) (.cons (.ret (.tup (.cons (.bin .fdiv (.var 0) (.var 2)) (.cons (.bin .fdiv (.var 1) (.var 2)) .nil)))) .nil)))
abbrev q_made : Dt := ⟨⟨2, 3, false, b_made⟩, D_made, [("top" : Str), ("bottom" : Str)], [("top" : Str), ("bottom" : Str), ("part" : Str)]⟩
/-- pair_of -/
def D_pair_of : He.DefD := ⟨("pair_of", none), "pair_of", "pair_of", defArgs (top 14), defBody (top 14), defScope (top 14), [], []⟩
abbrev b_pair_of : Sms := (.cons (.ret (.ite (.isi (.var 0) ["tuple"]) (.var 0) (.tup (.cons (.var 0) (.cons (.cst (.int 1)) .nil))))) .nil)
abbrev q_pair_of : Dt := ⟨⟨1, 1, false, b_pair_of⟩, D_pair_of, [("number" : Str)], [("number" : Str)]⟩
/-- common -/
def D_common : He.DefD := ⟨("common", none), "common", "common", defArgs (top 15), defBody (top 15), defScope (top 15), [], []⟩
abbrev b_common : Sms := (.cons (.asg (.name 1) (.cst (.int 1))) (.cons (.for_ (.tup (.cons (.name 2) (.cons (.name 3) .nil))) (.seq (.var 0)) (.cons (.asg (.name 1) (.blt .lcm (.cons (.var 1) (.cons (.var 3) .nil)))) .nil)) (.cons (.ret (.var 1)) .nil)))
abbrev q_common : Dt := ⟨⟨1, 4, false, b_common⟩, D_common, [("values" : Str)], [("values" : Str), ("found" : Str), ("top" : Str), ("bottom" : Str)]⟩
/-- cleared_of -/
def D_cleared_of : He.DefD := ⟨("cleared_of", none), "cleared_of", "cleared_of", defArgs (top 16), defBody (top 16), defScope (top 16), [], []⟩
abbrev b_cleared_of : Sms := (.cons (.asg (.name 1) (.comp (.call i_pair_of (.cons (.var 3) .nil)) (.name 3) (.seq (.var 0)) .nil [3])) (.cons (.asg (.name 2) (.call i_common (.cons (.var 1) .nil))) (.cons (.ret (.tup (.cons (.comp (.bin .mul (.var 4) (.bin .fdiv (.var 2) (.var 5))) (.tup (.cons (.name 4) (.cons (.name 5) .nil))) (.seq (.var 1)) .nil [4, 5]) (.cons (.var 2) .nil)))) .nil)))
abbrev q_cleared_of : Dt := ⟨⟨1, 6, false, b_cleared_of⟩, D_cleared_of, [("row" : Str)], [("row" : Str), ("pairs" : Str), ("bottom" : Str), ("number" : Str), ("top" : Str), ("under" : Str)]⟩
/-- r_plus -/
def D_r_plus : He.DefD := ⟨("r_plus", none), "r_plus", "r_plus", defArgs (top 17), defBody (top 17), defScope (top 17), [], []⟩
abbrev b_r_plus : Sms := (.cons (.ret (.call i_made (.cons (.bin .add (.bin .mul (.sub (.var 0) (.cst (.int 0))) (.sub (.var 1) (.cst (.int 1)))) (.bin .mul (.sub (.var 1) (.cst (.int 0))) (.sub (.var 0) (.cst (.int 1))))) (.cons (.bin .mul (.sub (.var 0) (.cst (.int 1))) (.sub (.var 1) (.cst (.int 1)))) .nil)))) .nil)
abbrev q_r_plus : Dt := ⟨⟨2, 2, false, b_r_plus⟩, D_r_plus, [("one" : Str), ("other" : Str)], [("one" : Str), ("other" : Str)]⟩
/-- r_times -/
def D_r_times : He.DefD := ⟨("r_times", none), "r_times", "r_times", defArgs (top 18), defBody (top 18), defScope (top 18), [], []⟩
abbrev b_r_times : Sms := (.cons (.ret (.call i_made (.cons (.bin .mul (.sub (.var 0) (.cst (.int 0))) (.sub (.var 1) (.cst (.int 0)))) (.cons (.bin .mul (.sub (.var 0) (.cst (.int 1))) (.sub (.var 1) (.cst (.int 1)))) .nil)))) .nil)
abbrev q_r_times : Dt := ⟨⟨2, 2, false, b_r_times⟩, D_r_times, [("one" : Str), ("other" : Str)], [("one" : Str), ("other" : Str)]⟩
/-- compared_of -/
def D_compared_of : He.DefD := ⟨("compared_of", none), "compared_of", "compared_of", defArgs (top 19), defBody (top 19), defScope (top 19), [], []⟩
abbrev b_compared_of : Sms := (.cons (.asg (.tup (.cons (.name 2) (.cons (.name 3) .nil))) (.tup (.cons (.bin .mul (.sub (.var 0) (.cst (.int 0))) (.sub (.var 1) (.cst (.int 1)))) (.cons (.bin .mul (.sub (.var 1) (.cst (.int 0))) (.sub (.var 0) (.cst (.int 1)))) .nil)))) (.cons (.ret (.bin .sub (.blt .int (.cons (.cmp .gt (.var 2) (.var 3)) .nil)) (.blt .int (.cons (.cmp .lt (.var 2) (.var 3)) .nil)))) .nil))
abbrev q_compared_of : Dt := ⟨⟨2, 4, false, b_compared_of⟩, D_compared_of, [("one" : Str), ("other" : Str)], [("one" : Str), ("other" : Str), ("near" : Str), ("far" : Str)]⟩
/-- r_total -/
def D_r_total : He.DefD := ⟨("r_total", none), "r_total", "r_total", defArgs (top 20), defBody (top 20), defScope (top 20), [], []⟩
abbrev b_r_total : Sms := (.cons (.asg (.tup (.cons (.name 1) (.cons (.name 2) .nil))) (.call i_cleared_of (.cons (.var 0) .nil))) (.cons (.ret (.call i_made (.cons (.blt .sum (.cons (.var 1) .nil)) (.cons (.var 2) .nil)))) .nil))
abbrev q_r_total : Dt := ⟨⟨1, 3, false, b_r_total⟩, D_r_total, [("row" : Str)], [("row" : Str), ("tops" : Str), ("bottom" : Str)]⟩
/-- r_dot -/
def D_r_dot : He.DefD := ⟨("r_dot", none), "r_dot", "r_dot", defArgs (top 21), defBody (top 21), defScope (top 21), [], []⟩
abbrev b_r_dot : Sms := (.cons (.asg (.tup (.cons (.name 2) (.cons (.name 3) .nil))) (.call i_cleared_of (.cons (.var 0) .nil))) (.cons (.asg (.tup (.cons (.name 4) (.cons (.name 5) .nil))) (.call i_cleared_of (.cons (.var 1) .nil))) (.cons (.ret (.call i_made (.cons (.blt .sum (.cons (.comp (.bin .mul (.var 6) (.var 7)) (.tup (.cons (.name 6) (.cons (.name 7) .nil))) (.zip2 (.var 2) (.var 4)) .nil [6, 7]) .nil)) (.cons (.bin .mul (.var 3) (.var 5)) .nil)))) .nil)))
abbrev q_r_dot : Dt := ⟨⟨2, 8, false, b_r_dot⟩, D_r_dot, [("row" : Str), ("other" : Str)], [("row" : Str), ("other" : Str), ("tops" : Str), ("bottom" : Str), ("more" : Str), ("under" : Str), ("one" : Str), ("two" : Str)]⟩
/-- first_of -/
def D_first_of : He.DefD := ⟨("first_of", none), "first_of", "first_of", defArgs (top 22), defBody (top 22), defScope (top 22), [], []⟩
abbrev b_first_of : Sms := (.cons (.asg (.name 2) (.call i_pair_of (.cons (.sub (.var 0) (.cst (.int 0))) .nil))) (.cons (.for_ (.name 3) (.seq (.slc (.var 0) true (.cst (.int 1)) false .omit)) (.cons (.asg (.name 4) (.call i_pair_of (.cons (.var 3) .nil))) (.cons (.asg (.name 2) (.ite (.cmp .eq (.call i_compared_of (.cons (.var 4) (.cons (.var 2) .nil))) (.var 1)) (.var 4) (.var 2))) .nil))) (.cons (.ret (.var 2)) .nil)))
abbrev q_first_of : Dt := ⟨⟨2, 5, false, b_first_of⟩, D_first_of, [("row" : Str), ("side" : Str)], [("row" : Str), ("side" : Str), ("found" : Str), ("number" : Str), ("one" : Str)]⟩
/-- is_row -/
def D_is_row : He.DefD := ⟨("is_row", none), "is_row", "is_row", defArgs (top 23), defBody (top 23), defScope (top 23), [], []⟩
abbrev b_is_row : Sms := (.cons (.ret (.andd (.call i_is_list (.cons (.var 0) .nil)) (.blt .all (.cons (.comp (.call i_is_number (.cons (.var 1) .nil)) (.name 1) (.seq (.var 0)) .nil [1]) .nil)))) .nil)
abbrev q_is_row : Dt := ⟨⟨1, 2, false, b_is_row⟩, D_is_row, [("value" : Str)], [("value" : Str), ("number" : Str)]⟩
/-- check_row -/
def D_check_row : He.DefD := ⟨("check_row", none), "check_row", "check_row", defArgs (top 24), defBody (top 24), defScope (top 24), [], []⟩
abbrev b_check_row : Sms := (.cons (.iff (.nott (.call i_is_row (.cons (.var 0) .nil))) (.cons .never .nil) .nil) .nil)
abbrev q_check_row : Dt := ⟨⟨1, 1, false, b_check_row⟩, D_check_row, [("value" : Str)], [("value" : Str)]⟩
/-- check_rows -/
def D_check_rows : He.DefD := ⟨("check_rows", none), "check_rows", "check_rows", defArgs (top 25), defBody (top 25), defScope (top 25), [], []⟩
abbrev b_check_rows : Sms := (.cons (.expr (.call i_check_row (.cons (.var 0) .nil))) (.cons (.iff (.orr (.nott (.call i_is_row (.cons (.var 1) .nil))) (.cmp .ne (.blt .len (.cons (.var 1) .nil)) (.blt .len (.cons (.var 0) .nil)))) (.cons .never .nil) .nil) .nil))
abbrev q_check_rows : Dt := ⟨⟨2, 2, false, b_check_rows⟩, D_check_rows, [("row" : Str), ("other" : Str)], [("row" : Str), ("other" : Str)]⟩
/-- total -/
def D_total : He.DefD := ⟨("total", none), "total", "total", defArgs (top 26), defBody (top 26), defScope (top 26), [], []⟩
abbrev b_total : Sms := (.cons (.expr (.call i_check_row (.cons (.var 0) .nil))) (.cons (.ret (.call i_r_total (.cons (.var 0) .nil))) .nil))
abbrev q_total : Dt := ⟨⟨1, 1, false, b_total⟩, D_total, [("row" : Str)], [("row" : Str)]⟩
/-- least_of -/
def D_least_of : He.DefD := ⟨("least_of", none), "least_of", "least_of", defArgs (top 27), defBody (top 27), defScope (top 27), [], []⟩
abbrev b_least_of : Sms := (.cons (.expr (.call i_check_row (.cons (.var 0) .nil))) (.cons (.iff (.cmp .eq (.blt .len (.cons (.var 0) .nil)) (.cst (.int 0))) (.cons .never .nil) .nil) (.cons (.ret (.call i_first_of (.cons (.var 0) (.cons (.neg (.cst (.int 1))) .nil)))) .nil)))
abbrev q_least_of : Dt := ⟨⟨1, 1, false, b_least_of⟩, D_least_of, [("row" : Str)], [("row" : Str)]⟩
/-- greatest_of -/
def D_greatest_of : He.DefD := ⟨("greatest_of", none), "greatest_of", "greatest_of", defArgs (top 28), defBody (top 28), defScope (top 28), [], []⟩
abbrev b_greatest_of : Sms := (.cons (.expr (.call i_check_row (.cons (.var 0) .nil))) (.cons (.iff (.cmp .eq (.blt .len (.cons (.var 0) .nil)) (.cst (.int 0))) (.cons .never .nil) .nil) (.cons (.ret (.call i_first_of (.cons (.var 0) (.cons (.cst (.int 1)) .nil)))) .nil)))
abbrev q_greatest_of : Dt := ⟨⟨1, 1, false, b_greatest_of⟩, D_greatest_of, [("row" : Str)], [("row" : Str)]⟩
/-- dot -/
def D_dot : He.DefD := ⟨("dot", none), "dot", "dot", defArgs (top 29), defBody (top 29), defScope (top 29), [], []⟩
abbrev b_dot : Sms := (.cons (.expr (.call i_check_rows (.cons (.var 0) (.cons (.var 1) .nil)))) (.cons (.ret (.call i_r_dot (.cons (.var 0) (.cons (.var 1) .nil)))) .nil))
abbrev q_dot : Dt := ⟨⟨2, 2, false, b_dot⟩, D_dot, [("row" : Str), ("other" : Str)], [("row" : Str), ("other" : Str)]⟩
/-- added -/
def D_added : He.DefD := ⟨("added", none), "added", "added", defArgs (top 30), defBody (top 30), defScope (top 30), [], []⟩
abbrev b_added : Sms := (.cons (.expr (.call i_check_rows (.cons (.var 0) (.cons (.var 1) .nil)))) (.cons (.ret (.comp (.call i_r_plus (.cons (.call i_pair_of (.cons (.var 2) .nil)) (.cons (.call i_pair_of (.cons (.var 3) .nil)) .nil))) (.tup (.cons (.name 2) (.cons (.name 3) .nil))) (.zip2 (.var 0) (.var 1)) .nil [2, 3])) .nil))
abbrev q_added : Dt := ⟨⟨2, 4, true, b_added⟩, D_added, [("row" : Str), ("other" : Str)], [("row" : Str), ("other" : Str), ("one" : Str), ("two" : Str)]⟩
/-- scaled -/
def D_scaled : He.DefD := ⟨("scaled", none), "scaled", "scaled", defArgs (top 31), defBody (top 31), defScope (top 31), [], []⟩
abbrev b_scaled : Sms := (.cons (.expr (.call i_check_row (.cons (.var 0) .nil))) (.cons (.iff (.nott (.call i_is_number (.cons (.var 1) .nil))) (.cons .never .nil) .nil) (.cons (.ret (.comp (.call i_r_times (.cons (.call i_pair_of (.cons (.var 2) .nil)) (.cons (.call i_pair_of (.cons (.var 1) .nil)) .nil))) (.name 2) (.seq (.var 0)) .nil [2])) .nil)))
abbrev q_scaled : Dt := ⟨⟨2, 3, true, b_scaled⟩, D_scaled, [("row" : Str), ("factor" : Str)], [("row" : Str), ("factor" : Str), ("one" : Str)]⟩
/-- square -/
def D_square : He.DefD := ⟨("square", none), "square", "square", defArgs (top 32), defBody (top 32), defScope (top 32), [], []⟩
abbrev b_square : Sms := (.cons (.expr (.call i_check_row (.cons (.var 0) .nil))) (.cons (.ret (.call i_r_dot (.cons (.var 0) (.cons (.var 0) .nil)))) .nil))
abbrev q_square : Dt := ⟨⟨1, 1, false, b_square⟩, D_square, [("row" : Str)], [("row" : Str)]⟩
/-- _law_pot -/
def D__law_pot : He.DefD := ⟨("_law_pot", none), "_law_pot", "_law_pot", defArgs (top 34), defBody (top 34), defScope (top 34), [], []⟩
abbrev b__law_pot : Sms := (.cons (.asg (.name 2) (.bin .add (.bin .add (.bin .mul (.cst (.int 839)) (.var 1)) (.cst (.int 431))) (.bin .mod (.blt .int (.cons (.blt .abs (.cons (.blt .sum (.cons (.slc (.var 0) false .omit true (.cst (.int 1))) .nil)) .nil)) .nil)) (.cst (.int 1000003))))) (.cons (.asg (.name 3) (.ite (.cmp .lt (.var 1) (.blt .len (.cons (.var 0) .nil))) (.blt .abs (.cons (.sub (.var 0) (.var 1)) .nil)) (.var 2))) (.cons (.ret (.lst (.cons (.blt .max2 (.cons (.cst (.int 0)) (.cons (.bin .sub (.var 3) (.bin .pow (.cst (.int 10)) (.cst (.int 18)))) .nil))) (.cons (.bin .add (.bin .mod (.blt .int (.cons (.bin .add (.bin .add (.bin .mul (.bin .mod (.blt .int (.cons (.var 3) .nil)) (.cst (.int 2147483579))) (.cst (.int 40127))) (.bin .mul (.cst (.int 6329)) (.var 1))) (.cst (.int 431))) .nil)) (.cst (.int 2147483563))) (.cst (.int 1))) .nil)))) .nil)))
abbrev q__law_pot : Dt := ⟨⟨2, 4, true, b__law_pot⟩, D__law_pot, [("script" : Str), ("k" : Str)], [("script" : Str), ("k" : Str), ("spare" : Str), ("cell" : Str)]⟩
/-- _law_draw -/
def D__law_draw : He.DefD := ⟨("_law_draw", none), "_law_draw", "_law_draw", defArgs (top 35), defBody (top 35), defScope (top 35), [], []⟩
abbrev t__law_draw_0 : Sms := (.cons (.ret (.var 2)) .nil)
abbrev t__law_draw_1 : Sms := (.cons (.asg (.sub (.var 0) (.cst (.int 0))) (.bin .fdiv (.blt .int (.cons (.sub (.var 0) (.cst (.int 0))) .nil)) (.var 1))) t__law_draw_0)
abbrev t__law_draw_2 : Sms := (.cons (.asg (.name 2) (.bin .mod (.blt .int (.cons (.sub (.var 0) (.cst (.int 0))) .nil)) (.var 1))) t__law_draw_1)
abbrev t__law_draw_3 : Sms := (.cons (.ret (.bin .mod (.blt .int (.cons (.bin .fdiv (.bin .mod (.blt .int (.cons (.bin .mul (.sub (.var 0) (.cst (.int 1))) (.sub (.var 0) (.cst (.int 1)))) .nil)) (.cst (.int 2147483549))) (.cst (.int 23))) .nil)) (.var 1))) .nil)
abbrev t__law_draw_4 : Sms := (.cons (.asg (.sub (.var 0) (.cst (.int 1))) (.bin .mod (.blt .int (.cons (.bin .add (.bin .mul (.sub (.var 0) (.cst (.int 1))) (.cst (.int 40127))) (.cst (.int 6329))) .nil)) (.cst (.int 2147483587)))) t__law_draw_3)
abbrev b__law_draw : Sms := (.cons (.iff (.cmp .gt (.sub (.var 0) (.cst (.int 0))) (.cst (.int 0))) t__law_draw_2 .nil) t__law_draw_4)
abbrev q__law_draw : Dt := ⟨⟨2, 3, false, b__law_draw⟩, D__law_draw, [("pot" : Str), ("many" : Str)], [("pot" : Str), ("many" : Str), ("digit" : Str)]⟩
/-- _law_same -/
def D__law_same : He.DefD := ⟨("_law_same", none), "_law_same", "_law_same", defArgs (top 36), defBody (top 36), defScope (top 36), [], []⟩
abbrev t__law_same_0 : Sms := (.cons (.ret (.cmp .isN (.var 0) (.cst .non))) .nil)
abbrev t__law_same_1 : Sms := (.cons (.ret (.andd (.isi (.var 0) ["bool"]) (.cmp .eq (.var 0) (.var 1)))) .nil)
abbrev t__law_same_2 : Sms := (.cons (.ret (.andd (.isi (.var 0) ["str"]) (.cmp .eq (.var 0) (.var 1)))) .nil)
abbrev t__law_same_3 : Sms := (.cons (.ret (.andd (.isi (.var 0) ["int"]) (.andd (.nott (.isi (.var 0) ["bool"])) (.cmp .eq (.var 0) (.var 1))))) .nil)
abbrev t__law_same_4 : Sms := (.cons (.ret (.cst (.bl false))) .nil)
abbrev t__law_same_5 : Sms := (.cons (.ret (.blt .all (.cons (.comp (.call i__law_same (.cons (.var 2) (.cons (.var 3) .nil))) (.tup (.cons (.name 2) (.cons (.name 3) .nil))) (.zip2 (.var 0) (.var 1)) .nil [2, 3]) .nil))) .nil)
abbrev t__law_same_6 : Sms := (.cons (.iff (.orr (.nott (.isi (.var 0) ["tuple"])) (.cmp .ne (.blt .len (.cons (.var 0) .nil)) (.blt .len (.cons (.var 1) .nil)))) t__law_same_4 .nil) t__law_same_5)
abbrev t__law_same_7 : Sms := (.cons (.ret (.cst (.bl false))) .nil)
abbrev t__law_same_8 : Sms := (.cons (.ret (.blt .all (.cons (.comp (.call i__law_same (.cons (.var 2) (.cons (.var 3) .nil))) (.tup (.cons (.name 2) (.cons (.name 3) .nil))) (.zip2 (.var 0) (.var 1)) .nil [2, 3]) .nil))) .nil)
abbrev t__law_same_9 : Sms := (.cons (.iff (.orr (.nott (.isi (.var 0) ["list"])) (.cmp .ne (.blt .len (.cons (.var 0) .nil)) (.blt .len (.cons (.var 1) .nil)))) t__law_same_7 .nil) t__law_same_8)
abbrev t__law_same_10 : Sms := (.cons (.ret (.cmp .eq (.var 0) (.var 1))) .nil)
abbrev t__law_same_11 : Sms := (.cons (.iff (.isi (.var 1) ["list"]) t__law_same_9 .nil) t__law_same_10)
abbrev t__law_same_12 : Sms := (.cons (.iff (.isi (.var 1) ["tuple"]) t__law_same_6 .nil) t__law_same_11)
abbrev t__law_same_13 : Sms := (.cons (.iff (.isi (.var 1) ["int"]) t__law_same_3 .nil) t__law_same_12)
abbrev t__law_same_14 : Sms := (.cons (.iff (.isi (.var 1) ["str"]) t__law_same_2 .nil) t__law_same_13)
abbrev t__law_same_15 : Sms := (.cons (.iff (.isi (.var 1) ["bool"]) t__law_same_1 .nil) t__law_same_14)
abbrev b__law_same : Sms := (.cons (.iff (.cmp .isN (.var 1) (.cst .non)) t__law_same_0 .nil) t__law_same_15)
abbrev q__law_same : Dt := ⟨⟨2, 4, false, b__law_same⟩, D__law_same, [("told" : Str), ("due" : Str)], [("told" : Str), ("due" : Str), ("near" : Str), ("far" : Str)]⟩
/-- _law_made -/
def D__law_made : He.DefD := ⟨("_law_made", none), "_law_made", "_law_made", defArgs (top 37), defBody (top 37), defScope (top 37), [], []⟩
abbrev b__law_made : Sms := (.cons (.asg (.tup (.cons (.name 2) (.cons (.name 3) .nil))) (.tup (.cons (.blt .abs (.cons (.var 0) .nil)) (.cons (.blt .abs (.cons (.var 1) .nil)) .nil)))) (.cons (.whl (.cmp .gt (.var 3) (.cst (.int 0))) (.cons (.asg (.tup (.cons (.name 2) (.cons (.name 3) .nil))) (.tup (.cons (.var 3) (.cons (.bin .mod (.var 2) (.var 3)) .nil)))) .nil)) (.cons (.asg (.name 4) (.ite (.cmp .lt (.var 1) (.cst (.int 0))) (.neg (.cst (.int 1))) (.cst (.int 1)))) (.cons (.ret (.tup (.cons (.bin .fdiv (.bin .mul (.var 4) (.var 0)) (.var 2)) (.cons (.bin .fdiv (.blt .abs (.cons (.var 1) .nil)) (.var 2)) .nil)))) .nil))))
abbrev q__law_made : Dt := ⟨⟨2, 5, false, b__law_made⟩, D__law_made, [("top" : Str), ("bottom" : Str)], [("top" : Str), ("bottom" : Str), ("one" : Str), ("other" : Str), ("sign" : Str)]⟩
/-- _law_pair -/
def D__law_pair : He.DefD := ⟨("_law_pair", none), "_law_pair", "_law_pair", defArgs (top 38), defBody (top 38), defScope (top 38), [], []⟩
abbrev b__law_pair : Sms := (.cons (.ret (.ite (.isi (.var 0) ["tuple"]) (.var 0) (.tup (.cons (.var 0) (.cons (.cst (.int 1)) .nil))))) .nil)
abbrev q__law_pair : Dt := ⟨⟨1, 1, false, b__law_pair⟩, D__law_pair, [("number" : Str)], [("number" : Str)]⟩
/-- _law_plus -/
def D__law_plus : He.DefD := ⟨("_law_plus", none), "_law_plus", "_law_plus", defArgs (top 39), defBody (top 39), defScope (top 39), [], []⟩
abbrev b__law_plus : Sms := (.cons (.ret (.call i__law_made (.cons (.bin .add (.bin .mul (.sub (.var 0) (.cst (.int 0))) (.sub (.var 1) (.cst (.int 1)))) (.bin .mul (.sub (.var 1) (.cst (.int 0))) (.sub (.var 0) (.cst (.int 1))))) (.cons (.bin .mul (.sub (.var 0) (.cst (.int 1))) (.sub (.var 1) (.cst (.int 1)))) .nil)))) .nil)
abbrev q__law_plus : Dt := ⟨⟨2, 2, false, b__law_plus⟩, D__law_plus, [("one" : Str), ("other" : Str)], [("one" : Str), ("other" : Str)]⟩
/-- _law_times -/
def D__law_times : He.DefD := ⟨("_law_times", none), "_law_times", "_law_times", defArgs (top 40), defBody (top 40), defScope (top 40), [], []⟩
abbrev b__law_times : Sms := (.cons (.ret (.call i__law_made (.cons (.bin .mul (.sub (.var 0) (.cst (.int 0))) (.sub (.var 1) (.cst (.int 0)))) (.cons (.bin .mul (.sub (.var 0) (.cst (.int 1))) (.sub (.var 1) (.cst (.int 1)))) .nil)))) .nil)
abbrev q__law_times : Dt := ⟨⟨2, 2, false, b__law_times⟩, D__law_times, [("one" : Str), ("other" : Str)], [("one" : Str), ("other" : Str)]⟩
/-- _law_is_less -/
def D__law_is_less : He.DefD := ⟨("_law_is_less", none), "_law_is_less", "_law_is_less", defArgs (top 41), defBody (top 41), defScope (top 41), [], []⟩
abbrev b__law_is_less : Sms := (.cons (.ret (.cmp .lt (.bin .mul (.sub (.var 0) (.cst (.int 0))) (.sub (.var 1) (.cst (.int 1)))) (.bin .mul (.sub (.var 1) (.cst (.int 0))) (.sub (.var 0) (.cst (.int 1)))))) .nil)
abbrev q__law_is_less : Dt := ⟨⟨2, 2, false, b__law_is_less⟩, D__law_is_less, [("one" : Str), ("other" : Str)], [("one" : Str), ("other" : Str)]⟩
/-- _law_sum -/
def D__law_sum : He.DefD := ⟨("_law_sum", none), "_law_sum", "_law_sum", defArgs (top 42), defBody (top 42), defScope (top 42), [], []⟩
abbrev b__law_sum : Sms := (.cons (.asg (.name 1) (.tup (.cons (.cst (.int 0)) (.cons (.cst (.int 1)) .nil)))) (.cons (.for_ (.name 2) (.seq (.var 0)) (.cons (.asg (.name 1) (.call i__law_plus (.cons (.var 1) (.cons (.var 2) .nil)))) .nil)) (.cons (.ret (.var 1)) .nil)))
abbrev q__law_sum : Dt := ⟨⟨1, 3, false, b__law_sum⟩, D__law_sum, [("some" : Str)], [("some" : Str), ("found" : Str), ("one" : Str)]⟩
/-- _law_dot -/
def D__law_dot : He.DefD := ⟨("_law_dot", none), "_law_dot", "_law_dot", defArgs (top 43), defBody (top 43), defScope (top 43), [], []⟩
abbrev b__law_dot : Sms := (.cons (.ret (.call i__law_sum (.cons (.comp (.call i__law_times (.cons (.call i__law_pair (.cons (.var 2) .nil)) (.cons (.call i__law_pair (.cons (.var 3) .nil)) .nil))) (.tup (.cons (.name 2) (.cons (.name 3) .nil))) (.zip2 (.var 0) (.var 1)) .nil [2, 3]) .nil))) .nil)
abbrev q__law_dot : Dt := ⟨⟨2, 4, false, b__law_dot⟩, D__law_dot, [("row" : Str), ("other" : Str)], [("row" : Str), ("other" : Str), ("one" : Str), ("more" : Str)]⟩
/-- _law_great -/
def D__law_great : He.DefD := ⟨("_law_great", none), "_law_great", "_law_great", defArgs (top 44), defBody (top 44), defScope (top 44), [], []⟩
abbrev b__law_great : Sms := (.cons (.asg (.name 1) (.cst (.int 0))) (.cons (.for_ (.name 2) (.range1 (.cst (.int 3))) (.cons (.asg (.name 1) (.bin .add (.bin .mul (.var 1) (.bin .pow (.cst (.int 10)) (.cst (.int 9)))) (.callS i__law_draw (.cons (.var 0) (.cons (.bin .pow (.cst (.int 10)) (.cst (.int 9))) .nil))))) .nil)) (.cons (.ret (.var 1)) .nil)))
abbrev q__law_great : Dt := ⟨⟨1, 3, false, b__law_great⟩, D__law_great, [("pot" : Str)], [("pot" : Str), ("found" : Str), ("turn" : Str)]⟩
/-- _law_number -/
def D__law_number : He.DefD := ⟨("_law_number", none), "_law_number", "_law_number", defArgs (top 45), defBody (top 45), defScope (top 45), [], []⟩
abbrev t__law_number_0 : Sms := (.cons (.ret (.bin .sub (.callS i__law_draw (.cons (.var 0) (.cons (.cst (.int 9)) .nil))) (.cst (.int 4)))) .nil)
abbrev t__law_number_1 : Sms := (.cons (.ret (.call i__law_made (.cons (.bin .sub (.callS i__law_draw (.cons (.var 0) (.cons (.cst (.int 13)) .nil))) (.cst (.int 6))) (.cons (.bin .add (.cst (.int 1)) (.callS i__law_draw (.cons (.var 0) (.cons (.cst (.int 6)) .nil)))) .nil)))) .nil)
abbrev t__law_number_2 : Sms := (.cons (.ret (.ite (.cmp .eq (.var 1) (.cst (.int 7))) (.var 2) (.call i__law_made (.cons (.var 2) (.cons (.bin .add (.cst (.int 1)) (.callS i__law_great (.cons (.var 0) .nil))) .nil))))) .nil)
abbrev t__law_number_3 : Sms := (.cons (.asg (.name 2) (.bin .mul (.bin .add (.callS i__law_great (.cons (.var 0) .nil)) (.cst (.int 1))) (.bin .sub (.cst (.int 1)) (.bin .mul (.cst (.int 2)) (.callS i__law_draw (.cons (.var 0) (.cons (.cst (.int 2)) .nil))))))) t__law_number_2)
abbrev t__law_number_4 : Sms := (.cons (.iff (.cmp .lt (.var 1) (.cst (.int 7))) t__law_number_1 .nil) t__law_number_3)
abbrev t__law_number_5 : Sms := (.cons (.iff (.cmp .lt (.var 1) (.cst (.int 3))) t__law_number_0 .nil) t__law_number_4)
abbrev b__law_number : Sms := (.cons (.asg (.name 1) (.callS i__law_draw (.cons (.var 0) (.cons (.cst (.int 9)) .nil)))) t__law_number_5)
abbrev q__law_number : Dt := ⟨⟨1, 3, false, b__law_number⟩, D__law_number, [("pot" : Str)], [("pot" : Str), ("way" : Str), ("top" : Str)]⟩
/-- _law_least -/
def D__law_least : He.DefD := ⟨("_law_least", none), "_law_least", "_law_least", defArgs (top 46), defBody (top 46), defScope (top 46), [], []⟩
abbrev b__law_least : Sms := (.cons (.asg (.name 2) (.sub (.var 0) (.cst (.int 0)))) (.cons (.for_ (.name 3) (.seq (.slc (.var 0) true (.cst (.int 1)) false .omit)) (.cons (.iff (.orr (.andd (.cmp .lt (.var 1) (.cst (.int 0))) (.call i__law_is_less (.cons (.var 3) (.cons (.var 2) .nil)))) (.andd (.cmp .gt (.var 1) (.cst (.int 0))) (.call i__law_is_less (.cons (.var 2) (.cons (.var 3) .nil))))) (.cons (.asg (.name 2) (.var 3)) .nil) .nil) .nil)) (.cons (.ret (.var 2)) .nil)))
abbrev q__law_least : Dt := ⟨⟨2, 4, false, b__law_least⟩, D__law_least, [("row" : Str), ("side" : Str)], [("row" : Str), ("side" : Str), ("found" : Str), ("one" : Str)]⟩
/-- _law_lists_right -/
def D__law_lists_right : He.DefD := ⟨("_law_lists_right", none), "_law_lists_right", "_law_lists_right", defArgs (top 47), defBody (top 47), defScope (top 47), [], []⟩
abbrev t__law_lists_right_0 : Sms := (.cons (.ret (.cst (.bl false))) .nil)
abbrev t__law_lists_right_1 : Sms := (.cons (.ret (.cst (.bl false))) .nil)
abbrev t__law_lists_right_2 : Sms := (.cons (.ret (.call i__law_same (.cons (.lst (.cons (.callK i_added .nil [1, 0] (.cons (.var 1) (.cons (.var 0) .nil))) (.cons (.callK i_scaled .nil [1, 0] (.cons (.var 2) (.cons (.var 0) .nil))) .nil))) (.cons (.lst (.cons (.var 3) (.cons (.var 5) .nil))) .nil)))) .nil)
abbrev t__law_lists_right_3 : Sms := (.cons (.freeze 4) t__law_lists_right_2)
abbrev t__law_lists_right_4 : Sms := (.cons (.expr (.meth .reverse (.var 4) .nil)) t__law_lists_right_3)
abbrev t__law_lists_right_5 : Sms := (.cons (.iff (.nott (.call i__law_same (.cons (.var 4) (.cons (.var 5) .nil)))) t__law_lists_right_1 .nil) t__law_lists_right_4)
abbrev t__law_lists_right_6 : Sms := (.cons (.asg (.name 4) (.thaw (.call i_scaled (.cons (.var 0) (.cons (.var 2) .nil))))) t__law_lists_right_5)
abbrev t__law_lists_right_7 : Sms := (.cons (.asg (.name 5) (.comp (.call i__law_times (.cons (.call i__law_pair (.cons (.var 6) .nil)) (.cons (.call i__law_pair (.cons (.var 2) .nil)) .nil))) (.name 6) (.seq (.var 0)) .nil [6])) t__law_lists_right_6)
abbrev t__law_lists_right_8 : Sms := (.cons (.freeze 4) t__law_lists_right_7)
abbrev t__law_lists_right_9 : Sms := (.cons (.expr (.meth .append (.var 4) (.cons (.cst .non) .nil))) t__law_lists_right_8)
abbrev t__law_lists_right_10 : Sms := (.cons (.iff (.nott (.call i__law_same (.cons (.var 4) (.cons (.var 3) .nil)))) t__law_lists_right_0 .nil) t__law_lists_right_9)
abbrev t__law_lists_right_11 : Sms := (.cons (.asg (.name 4) (.thaw (.call i_added (.cons (.var 0) (.cons (.var 1) .nil))))) t__law_lists_right_10)
abbrev b__law_lists_right : Sms := (.cons (.asg (.name 3) (.comp (.call i__law_plus (.cons (.call i__law_pair (.cons (.var 6) .nil)) (.cons (.call i__law_pair (.cons (.var 7) .nil)) .nil))) (.tup (.cons (.name 6) (.cons (.name 7) .nil))) (.zip2 (.var 0) (.var 1)) .nil [6, 7])) t__law_lists_right_11)
abbrev q__law_lists_right : Dt := ⟨⟨3, 8, false, b__law_lists_right⟩, D__law_lists_right, [("row" : Str), ("other" : Str), ("factor" : Str)], [("row" : Str), ("other" : Str), ("factor" : Str), ("due" : Str), ("told" : Str), ("grown" : Str), ("one" : Str), ("more" : Str)]⟩
/-- law -/
def D_law : He.DefD := ⟨("law", none), "law", "law", defArgs (top 48), defBody (top 48), defScope (top 48), [], []⟩
abbrev t_law_0 : Sms := (.cons (.asg (.name 4) (.blt .tuple (.cons (.var 4) .nil))) .nil)
abbrev t_law_1 : Sms := (.cons (.ret (.cst (.bl false))) .nil)
abbrev t_law_2 : Sms := (.cons (.ret (.cst (.bl false))) .nil)
abbrev t_law_3 : Sms := (.cons (.ret (.cst (.bl false))) .nil)
abbrev t_law_4 : Sms := (.cons (.iff (.orr (.nott (.call i__law_same (.cons (.lst (.cons (.call i_least_of (.cons (.var 4) .nil)) (.cons (.call i_greatest_of (.cons (.var 4) .nil)) .nil))) (.cons (.var 9) .nil)))) (.nott (.call i__law_same (.cons (.lst (.cons (.callK i_least_of .nil [0] (.cons (.var 4) .nil)) (.cons (.callK i_greatest_of .nil [0] (.cons (.var 4) .nil)) .nil))) (.cons (.var 9) .nil))))) t_law_3 .nil) .nil)
abbrev t_law_5 : Sms := (.cons (.asg (.name 9) (.lst (.cons (.call i__law_least (.cons (.var 8) (.cons (.neg (.cst (.int 1))) .nil))) (.cons (.call i__law_least (.cons (.var 8) (.cons (.cst (.int 1)) .nil))) .nil)))) t_law_4)
abbrev t_law_6 : Sms := (.cons (.ret (.cst (.bl false))) .nil)
abbrev t_law_7 : Sms := (.cons (.iff (.orr (.nott (.call i__law_lists_right (.cons (.var 4) (.cons (.var 5) (.cons (.var 6) .nil))))) (.cmp .ne (.repr (.lst (.cons (.var 4) (.cons (.var 5) .nil)))) (.var 7))) t_law_6 .nil) .nil)
abbrev t_law_8 : Sms := (.cons (.iff (.cmp .gt (.var 3) (.cst (.int 0))) t_law_5 .nil) t_law_7)
abbrev t_law_9 : Sms := (.cons (.iff (.nott (.call i__law_same (.cons (.lst (.cons (.call i_square (.cons (.var 4) .nil)) (.cons (.callK i_square .nil [0] (.cons (.var 4) .nil)) (.cons (.callK i_dot .nil [1, 0] (.cons (.var 4) (.cons (.var 5) .nil))) .nil)))) (.cons (.cat (.bin .mul (.lst (.cons (.call i__law_dot (.cons (.var 4) (.cons (.var 4) .nil))) .nil)) (.cst (.int 2))) (.lst (.cons (.call i__law_dot (.cons (.var 4) (.cons (.var 5) .nil))) .nil))) .nil)))) t_law_2 .nil) t_law_8)
abbrev t_law_10 : Sms := (.cons (.iff (.nott (.call i__law_same (.cons (.lst (.cons (.call i_total (.cons (.var 4) .nil)) (.cons (.callK i_total .nil [0] (.cons (.var 4) .nil)) (.cons (.call i_dot (.cons (.var 4) (.cons (.var 5) .nil))) .nil)))) (.cons (.lst (.cons (.call i__law_sum (.cons (.var 8) .nil)) (.cons (.call i__law_sum (.cons (.var 8) .nil)) (.cons (.call i__law_dot (.cons (.var 4) (.cons (.var 5) .nil))) .nil)))) .nil)))) t_law_1 .nil) t_law_9)
abbrev t_law_11 : Sms := (.cons (.asg (.tup (.cons (.name 7) (.cons (.name 8) .nil))) (.tup (.cons (.repr (.lst (.cons (.var 4) (.cons (.var 5) .nil)))) (.cons (.comp (.call i__law_pair (.cons (.var 11) .nil)) (.name 11) (.seq (.var 4)) .nil [11]) .nil)))) t_law_10)
abbrev t_law_12 : Sms := (.cons (.iff (.cmp .eq (.bin .mod (.var 2) (.cst (.int 2))) (.cst (.int 0))) t_law_0 .nil) t_law_11)
abbrev t_law_13 : Sms := (.cons (.asg (.tup (.cons (.name 4) (.cons (.name 5) (.cons (.name 6) .nil)))) (.tup (.cons (.comp (.callS i__law_number (.cons (.var 1) .nil)) (.name 10) (.range1 (.var 3)) .nil [10]) (.cons (.comp (.callS i__law_number (.cons (.var 1) .nil)) (.name 10) (.range1 (.var 3)) .nil [10]) (.cons (.callS i__law_number (.cons (.var 1) .nil)) .nil))))) t_law_12)
abbrev t_law_14 : Sms := (.cons (.asg (.name 3) (.callS i__law_draw (.cons (.var 1) (.cons (.cst (.int 7)) .nil)))) t_law_13)
abbrev t_law_15 : Sms := (.cons (.ret (.cst (.bl true))) .nil)
abbrev t_law_16 : Sms := (.cons (.freeze 1) t_law_15)
abbrev t_law_17 : Sms := (.cons (.for_ (.name 2) (.range1 (.cst (.int 8))) t_law_14) t_law_16)
abbrev b_law : Sms := (.cons (.asg (.name 1) (.thaw (.call i__law_pot (.cons (.var 0) (.cons (.cst (.int 0)) .nil))))) t_law_17)
abbrev q_law : Dt := ⟨⟨1, 12, false, b_law⟩, D_law, [("script" : Str)], [("script" : Str), ("pot" : Str), ("turn" : Str), ("many" : Str), ("row" : Str), ("other" : Str), ("factor" : Str), ("shown" : Str), ("pairs" : Str), ("due" : Str), ("at" : Str), ("one" : Str)]⟩
def L : List Dt := [q_is_integer, q_is_list, q_is_ratio, q_is_number, q_made, q_pair_of, q_common, q_cleared_of, q_r_plus, q_r_times, q_compared_of, q_r_total, q_r_dot, q_first_of, q_is_row, q_check_row, q_check_rows, q_total, q_least_of, q_greatest_of] ++ [q_dot, q_added, q_scaled, q_square, q__law_pot, q__law_draw, q__law_same, q__law_made, q__law_pair, q__law_plus, q__law_times, q__law_is_less, q__law_sum, q__law_dot, q__law_great, q__law_number, q__law_least, q__law_lists_right, q_law]
def cs : List (Str × Cst) := []
def G : Gm := { N := [], fns := [("is_integer" : Str), ("is_list" : Str), ("is_ratio" : Str), ("is_number" : Str), ("made" : Str), ("pair_of" : Str), ("common" : Str), ("cleared_of" : Str), ("r_plus" : Str), ("r_times" : Str), ("compared_of" : Str), ("r_total" : Str), ("r_dot" : Str), ("first_of" : Str), ("is_row" : Str), ("check_row" : Str), ("check_rows" : Str), ("total" : Str), ("least_of" : Str), ("greatest_of" : Str)] ++ [("dot" : Str), ("added" : Str), ("scaled" : Str), ("square" : Str), ("_law_pot" : Str), ("_law_draw" : Str), ("_law_same" : Str), ("_law_made" : Str), ("_law_pair" : Str), ("_law_plus" : Str), ("_law_times" : Str), ("_law_is_less" : Str), ("_law_sum" : Str), ("_law_dot" : Str), ("_law_great" : Str), ("_law_number" : Str), ("_law_least" : Str), ("_law_lists_right" : Str), ("law" : Str)], pars := [[("value" : Str)], [("value" : Str)], [("value" : Str)], [("value" : Str)], [("top" : Str), ("bottom" : Str)], [("number" : Str)], [("values" : Str)], [("row" : Str)], [("one" : Str), ("other" : Str)], [("one" : Str), ("other" : Str)], [("one" : Str), ("other" : Str)], [("row" : Str)], [("row" : Str), ("other" : Str)], [("row" : Str), ("side" : Str)], [("value" : Str)], [("value" : Str)], [("row" : Str), ("other" : Str)], [("row" : Str)], [("row" : Str)], [("row" : Str)]] ++ [[("row" : Str), ("other" : Str)], [("row" : Str), ("other" : Str)], [("row" : Str), ("factor" : Str)], [("row" : Str)], [("script" : Str), ("k" : Str)], [("pot" : Str), ("many" : Str)], [("told" : Str), ("due" : Str)], [("top" : Str), ("bottom" : Str)], [("number" : Str)], [("one" : Str), ("other" : Str)], [("one" : Str), ("other" : Str)], [("one" : Str), ("other" : Str)], [("some" : Str)], [("row" : Str), ("other" : Str)], [("pot" : Str)], [("pot" : Str)], [("row" : Str), ("side" : Str)], [("row" : Str), ("other" : Str), ("factor" : Str)], [("script" : Str)]], cons := cs.map (·.1), fl := [], kws := [(22, [("factor" : Str), ("row" : Str)], [1, 0]), (21, [("other" : Str), ("row" : Str)], [1, 0]), (17, [("row" : Str)], [0]), (20, [("other" : Str), ("row" : Str)], [1, 0]), (23, [("row" : Str)], [0]), (19, [("row" : Str)], [0]), (18, [("row" : Str)], [0])], mods := [.gcd, .lcm] }
theorem one0 : One G q_is_integer := of_ck (c := ckF G q_is_integer) (by decide +kernel)
theorem one1 : One G q_is_list := of_ck (c := ckF G q_is_list) (by decide +kernel)
theorem one2 : One G q_is_ratio := of_ck (c := ckF G q_is_ratio) (by decide +kernel)
theorem one3 : One G q_is_number := of_ck (c := ckF G q_is_number) (by decide +kernel)
theorem one4 : One G q_made := of_ck (c := ckF G q_made) (by decide +kernel)
theorem one5 : One G q_pair_of := of_ck (c := ckF G q_pair_of) (by decide +kernel)
theorem one6 : One G q_common := of_ck (c := ckF G q_common) (by decide +kernel)
theorem one7 : One G q_cleared_of := of_ck (c := ckF G q_cleared_of) (by decide +kernel)
theorem one8 : One G q_r_plus := of_ck (c := ckF G q_r_plus) (by decide +kernel)
theorem one9 : One G q_r_times := of_ck (c := ckF G q_r_times) (by decide +kernel)
theorem one10 : One G q_compared_of := of_ck (c := ckF G q_compared_of) (by decide +kernel)
theorem one11 : One G q_r_total := of_ck (c := ckF G q_r_total) (by decide +kernel)
theorem one12 : One G q_r_dot := of_ck (c := ckF G q_r_dot) (by decide +kernel)
theorem one13 : One G q_first_of := of_ck (c := ckF G q_first_of) (by decide +kernel)
theorem one14 : One G q_is_row := of_ck (c := ckF G q_is_row) (by decide +kernel)
theorem one15 : One G q_check_row := of_ck (c := ckF G q_check_row) (by decide +kernel)
theorem one16 : One G q_check_rows := of_ck (c := ckF G q_check_rows) (by decide +kernel)
theorem one17 : One G q_total := of_ck (c := ckF G q_total) (by decide +kernel)
theorem one18 : One G q_least_of := of_ck (c := ckF G q_least_of) (by decide +kernel)
theorem one19 : One G q_greatest_of := of_ck (c := ckF G q_greatest_of) (by decide +kernel)
theorem one20 : One G q_dot := of_ck (c := ckF G q_dot) (by decide +kernel)
theorem one21 : One G q_added := of_ck (c := ckF G q_added) (by decide +kernel)
theorem one22 : One G q_scaled := of_ck (c := ckF G q_scaled) (by decide +kernel)
theorem one23 : One G q_square := of_ck (c := ckF G q_square) (by decide +kernel)
theorem one24 : One G q__law_pot := of_ck (c := ckF G q__law_pot) (by decide +kernel)
theorem one25 : One G q__law_draw := of_ck (c := ckF G q__law_draw) (by decide +kernel)
theorem one26 : One G q__law_same := of_ck (c := ckF G q__law_same) (by decide +kernel)
theorem one27 : One G q__law_made := of_ck (c := ckF G q__law_made) (by decide +kernel)
theorem one28 : One G q__law_pair := of_ck (c := ckF G q__law_pair) (by decide +kernel)
theorem one29 : One G q__law_plus := of_ck (c := ckF G q__law_plus) (by decide +kernel)
theorem one30 : One G q__law_times := of_ck (c := ckF G q__law_times) (by decide +kernel)
theorem one31 : One G q__law_is_less := of_ck (c := ckF G q__law_is_less) (by decide +kernel)
theorem one32 : One G q__law_sum := of_ck (c := ckF G q__law_sum) (by decide +kernel)
theorem one33 : One G q__law_dot := of_ck (c := ckF G q__law_dot) (by decide +kernel)
theorem one34 : One G q__law_great := of_ck (c := ckF G q__law_great) (by decide +kernel)
theorem one35 : One G q__law_number := of_ck (c := ckF G q__law_number) (by decide +kernel)
theorem one36 : One G q__law_least := of_ck (c := ckF G q__law_least) (by decide +kernel)
theorem one37 : One G q__law_lists_right := of_ck (c := ckF G q__law_lists_right) (by decide +kernel)
theorem one38 : One G q_law := of_ck (c := ckF G q_law) (by decide +kernel)
theorem ones : ∀ q ∈ L, One G q := List.forall_mem_cons.mpr ⟨one0, List.forall_mem_cons.mpr ⟨one1, List.forall_mem_cons.mpr ⟨one2, List.forall_mem_cons.mpr ⟨one3, List.forall_mem_cons.mpr ⟨one4, List.forall_mem_cons.mpr ⟨one5, List.forall_mem_cons.mpr ⟨one6, List.forall_mem_cons.mpr ⟨one7, List.forall_mem_cons.mpr ⟨one8, List.forall_mem_cons.mpr ⟨one9, List.forall_mem_cons.mpr ⟨one10, List.forall_mem_cons.mpr ⟨one11, List.forall_mem_cons.mpr ⟨one12, List.forall_mem_cons.mpr ⟨one13, List.forall_mem_cons.mpr ⟨one14, List.forall_mem_cons.mpr ⟨one15, List.forall_mem_cons.mpr ⟨one16, List.forall_mem_cons.mpr ⟨one17, List.forall_mem_cons.mpr ⟨one18, List.forall_mem_cons.mpr ⟨one19, List.forall_mem_cons.mpr ⟨one20, List.forall_mem_cons.mpr ⟨one21, List.forall_mem_cons.mpr ⟨one22, List.forall_mem_cons.mpr ⟨one23, List.forall_mem_cons.mpr ⟨one24, List.forall_mem_cons.mpr ⟨one25, List.forall_mem_cons.mpr ⟨one26, List.forall_mem_cons.mpr ⟨one27, List.forall_mem_cons.mpr ⟨one28, List.forall_mem_cons.mpr ⟨one29, List.forall_mem_cons.mpr ⟨one30, List.forall_mem_cons.mpr ⟨one31, List.forall_mem_cons.mpr ⟨one32, List.forall_mem_cons.mpr ⟨one33, List.forall_mem_cons.mpr ⟨one34, List.forall_mem_cons.mpr ⟨one35, List.forall_mem_cons.mpr ⟨one36, List.forall_mem_cons.mpr ⟨one37, List.forall_mem_cons.mpr ⟨one38, List.forall_mem_nil _⟩⟩⟩⟩⟩⟩⟩⟩⟩⟩⟩⟩⟩⟩⟩⟩⟩⟩⟩⟩⟩⟩⟩⟩⟩⟩⟩⟩⟩⟩⟩⟩⟩⟩⟩⟩⟩⟩⟩
theorem pos0 : PosOk q_is_integer := fun _ _ _ _ _ _ us hl => match us, hl with | [_], _ => rfl
theorem pos1 : PosOk q_is_list := fun _ _ _ _ _ _ us hl => match us, hl with | [_], _ => rfl
theorem pos2 : PosOk q_is_ratio := fun _ _ _ _ _ _ us hl => match us, hl with | [_], _ => rfl
theorem pos3 : PosOk q_is_number := fun _ _ _ _ _ _ us hl => match us, hl with | [_], _ => rfl
theorem pos4 : PosOk q_made := fun _ _ _ _ _ _ us hl => match us, hl with | [_, _], _ => rfl
theorem pos5 : PosOk q_pair_of := fun _ _ _ _ _ _ us hl => match us, hl with | [_], _ => rfl
theorem pos6 : PosOk q_common := fun _ _ _ _ _ _ us hl => match us, hl with | [_], _ => rfl
theorem pos7 : PosOk q_cleared_of := fun _ _ _ _ _ _ us hl => match us, hl with | [_], _ => rfl
theorem pos8 : PosOk q_r_plus := fun _ _ _ _ _ _ us hl => match us, hl with | [_, _], _ => rfl
theorem pos9 : PosOk q_r_times := fun _ _ _ _ _ _ us hl => match us, hl with | [_, _], _ => rfl
theorem pos10 : PosOk q_compared_of := fun _ _ _ _ _ _ us hl => match us, hl with | [_, _], _ => rfl
theorem pos11 : PosOk q_r_total := fun _ _ _ _ _ _ us hl => match us, hl with | [_], _ => rfl
theorem pos12 : PosOk q_r_dot := fun _ _ _ _ _ _ us hl => match us, hl with | [_, _], _ => rfl
theorem pos13 : PosOk q_first_of := fun _ _ _ _ _ _ us hl => match us, hl with | [_, _], _ => rfl
theorem pos14 : PosOk q_is_row := fun _ _ _ _ _ _ us hl => match us, hl with | [_], _ => rfl
theorem pos15 : PosOk q_check_row := fun _ _ _ _ _ _ us hl => match us, hl with | [_], _ => rfl
theorem pos16 : PosOk q_check_rows := fun _ _ _ _ _ _ us hl => match us, hl with | [_, _], _ => rfl
theorem pos17 : PosOk q_total := fun _ _ _ _ _ _ us hl => match us, hl with | [_], _ => rfl
theorem pos18 : PosOk q_least_of := fun _ _ _ _ _ _ us hl => match us, hl with | [_], _ => rfl
theorem pos19 : PosOk q_greatest_of := fun _ _ _ _ _ _ us hl => match us, hl with | [_], _ => rfl
theorem pos20 : PosOk q_dot := fun _ _ _ _ _ _ us hl => match us, hl with | [_, _], _ => rfl
theorem pos21 : PosOk q_added := fun _ _ _ _ _ _ us hl => match us, hl with | [_, _], _ => rfl
theorem pos22 : PosOk q_scaled := fun _ _ _ _ _ _ us hl => match us, hl with | [_, _], _ => rfl
theorem pos23 : PosOk q_square := fun _ _ _ _ _ _ us hl => match us, hl with | [_], _ => rfl
theorem pos24 : PosOk q__law_pot := fun _ _ _ _ _ _ us hl => match us, hl with | [_, _], _ => rfl
theorem pos25 : PosOk q__law_draw := fun _ _ _ _ _ _ us hl => match us, hl with | [_, _], _ => rfl
theorem pos26 : PosOk q__law_same := fun _ _ _ _ _ _ us hl => match us, hl with | [_, _], _ => rfl
theorem pos27 : PosOk q__law_made := fun _ _ _ _ _ _ us hl => match us, hl with | [_, _], _ => rfl
theorem pos28 : PosOk q__law_pair := fun _ _ _ _ _ _ us hl => match us, hl with | [_], _ => rfl
theorem pos29 : PosOk q__law_plus := fun _ _ _ _ _ _ us hl => match us, hl with | [_, _], _ => rfl
theorem pos30 : PosOk q__law_times := fun _ _ _ _ _ _ us hl => match us, hl with | [_, _], _ => rfl
theorem pos31 : PosOk q__law_is_less := fun _ _ _ _ _ _ us hl => match us, hl with | [_, _], _ => rfl
theorem pos32 : PosOk q__law_sum := fun _ _ _ _ _ _ us hl => match us, hl with | [_], _ => rfl
theorem pos33 : PosOk q__law_dot := fun _ _ _ _ _ _ us hl => match us, hl with | [_, _], _ => rfl
theorem pos34 : PosOk q__law_great := fun _ _ _ _ _ _ us hl => match us, hl with | [_], _ => rfl
theorem pos35 : PosOk q__law_number := fun _ _ _ _ _ _ us hl => match us, hl with | [_], _ => rfl
theorem pos36 : PosOk q__law_least := fun _ _ _ _ _ _ us hl => match us, hl with | [_, _], _ => rfl
theorem pos37 : PosOk q__law_lists_right := fun _ _ _ _ _ _ us hl => match us, hl with | [_, _, _], _ => rfl
theorem pos38 : PosOk q_law := fun _ _ _ _ _ _ us hl => match us, hl with | [_], _ => rfl
theorem poss : ∀ q ∈ L, PosOk q := List.forall_mem_cons.mpr ⟨pos0, List.forall_mem_cons.mpr ⟨pos1, List.forall_mem_cons.mpr ⟨pos2, List.forall_mem_cons.mpr ⟨pos3, List.forall_mem_cons.mpr ⟨pos4, List.forall_mem_cons.mpr ⟨pos5, List.forall_mem_cons.mpr ⟨pos6, List.forall_mem_cons.mpr ⟨pos7, List.forall_mem_cons.mpr ⟨pos8, List.forall_mem_cons.mpr ⟨pos9, List.forall_mem_cons.mpr ⟨pos10, List.forall_mem_cons.mpr ⟨pos11, List.forall_mem_cons.mpr ⟨pos12, List.forall_mem_cons.mpr ⟨pos13, List.forall_mem_cons.mpr ⟨pos14, List.forall_mem_cons.mpr ⟨pos15, List.forall_mem_cons.mpr ⟨pos16, List.forall_mem_cons.mpr ⟨pos17, List.forall_mem_cons.mpr ⟨pos18, List.forall_mem_cons.mpr ⟨pos19, List.forall_mem_cons.mpr ⟨pos20, List.forall_mem_cons.mpr ⟨pos21, List.forall_mem_cons.mpr ⟨pos22, List.forall_mem_cons.mpr ⟨pos23, List.forall_mem_cons.mpr ⟨pos24, List.forall_mem_cons.mpr ⟨pos25, List.forall_mem_cons.mpr ⟨pos26, List.forall_mem_cons.mpr ⟨pos27, List.forall_mem_cons.mpr ⟨pos28, List.forall_mem_cons.mpr ⟨pos29, List.forall_mem_cons.mpr ⟨pos30, List.forall_mem_cons.mpr ⟨pos31, List.forall_mem_cons.mpr ⟨pos32, List.forall_mem_cons.mpr ⟨pos33, List.forall_mem_cons.mpr ⟨pos34, List.forall_mem_cons.mpr ⟨pos35, List.forall_mem_cons.mpr ⟨pos36, List.forall_mem_cons.mpr ⟨pos37, List.forall_mem_cons.mpr ⟨pos38, List.forall_mem_nil _⟩⟩⟩⟩⟩⟩⟩⟩⟩⟩⟩⟩⟩⟩⟩⟩⟩⟩⟩⟩⟩⟩⟩⟩⟩⟩⟩⟩⟩⟩⟩⟩⟩⟩⟩⟩⟩⟩⟩
theorem kw0 : ∃ q, L[22]? = some q ∧ KwOk q [("factor" : Str), ("row" : Str)] [1, 0] := ⟨q_scaled, rfl, fun _ _ _ _ _ _ ws vs hl ha => match ws, hl, ha with | [_, _], _, rfl => rfl⟩
theorem kw1 : ∃ q, L[21]? = some q ∧ KwOk q [("other" : Str), ("row" : Str)] [1, 0] := ⟨q_added, rfl, fun _ _ _ _ _ _ ws vs hl ha => match ws, hl, ha with | [_, _], _, rfl => rfl⟩
theorem kw2 : ∃ q, L[17]? = some q ∧ KwOk q [("row" : Str)] [0] := ⟨q_total, rfl, fun _ _ _ _ _ _ ws vs hl ha => match ws, hl, ha with | [_], _, rfl => rfl⟩
theorem kw3 : ∃ q, L[20]? = some q ∧ KwOk q [("other" : Str), ("row" : Str)] [1, 0] := ⟨q_dot, rfl, fun _ _ _ _ _ _ ws vs hl ha => match ws, hl, ha with | [_, _], _, rfl => rfl⟩
theorem kw4 : ∃ q, L[23]? = some q ∧ KwOk q [("row" : Str)] [0] := ⟨q_square, rfl, fun _ _ _ _ _ _ ws vs hl ha => match ws, hl, ha with | [_], _, rfl => rfl⟩
theorem kw5 : ∃ q, L[19]? = some q ∧ KwOk q [("row" : Str)] [0] := ⟨q_greatest_of, rfl, fun _ _ _ _ _ _ ws vs hl ha => match ws, hl, ha with | [_], _, rfl => rfl⟩
theorem kw6 : ∃ q, L[18]? = some q ∧ KwOk q [("row" : Str)] [0] := ⟨q_least_of, rfl, fun _ _ _ _ _ _ ws vs hl ha => match ws, hl, ha with | [_], _, rfl => rfl⟩
theorem kwss : ∀ t ∈ G.kws, ∃ q, L[t.1]? = some q ∧ KwOk q t.2.1 t.2.2 := List.forall_mem_cons.mpr ⟨kw0, List.forall_mem_cons.mpr ⟨kw1, List.forall_mem_cons.mpr ⟨kw2, List.forall_mem_cons.mpr ⟨kw3, List.forall_mem_cons.mpr ⟨kw4, List.forall_mem_cons.mpr ⟨kw5, List.forall_mem_cons.mpr ⟨kw6, List.forall_mem_nil _⟩⟩⟩⟩⟩⟩⟩
theorem ats : ∀ q ∈ L, q.D.at_ = (q.D.name, none) := List.forall_mem_cons.mpr ⟨rfl, List.forall_mem_cons.mpr ⟨rfl, List.forall_mem_cons.mpr ⟨rfl, List.forall_mem_cons.mpr ⟨rfl, List.forall_mem_cons.mpr ⟨rfl, List.forall_mem_cons.mpr ⟨rfl, List.forall_mem_cons.mpr ⟨rfl, List.forall_mem_cons.mpr ⟨rfl, List.forall_mem_cons.mpr ⟨rfl, List.forall_mem_cons.mpr ⟨rfl, List.forall_mem_cons.mpr ⟨rfl, List.forall_mem_cons.mpr ⟨rfl, List.forall_mem_cons.mpr ⟨rfl, List.forall_mem_cons.mpr ⟨rfl, List.forall_mem_cons.mpr ⟨rfl, List.forall_mem_cons.mpr ⟨rfl, List.forall_mem_cons.mpr ⟨rfl, List.forall_mem_cons.mpr ⟨rfl, List.forall_mem_cons.mpr ⟨rfl, List.forall_mem_cons.mpr ⟨rfl, List.forall_mem_cons.mpr ⟨rfl, List.forall_mem_cons.mpr ⟨rfl, List.forall_mem_cons.mpr ⟨rfl, List.forall_mem_cons.mpr ⟨rfl, List.forall_mem_cons.mpr ⟨rfl, List.forall_mem_cons.mpr ⟨rfl, List.forall_mem_cons.mpr ⟨rfl, List.forall_mem_cons.mpr ⟨rfl, List.forall_mem_cons.mpr ⟨rfl, List.forall_mem_cons.mpr ⟨rfl, List.forall_mem_cons.mpr ⟨rfl, List.forall_mem_cons.mpr ⟨rfl, List.forall_mem_cons.mpr ⟨rfl, List.forall_mem_cons.mpr ⟨rfl, List.forall_mem_cons.mpr ⟨rfl, List.forall_mem_cons.mpr ⟨rfl, List.forall_mem_cons.mpr ⟨rfl, List.forall_mem_cons.mpr ⟨rfl, List.forall_mem_cons.mpr ⟨rfl, List.forall_mem_nil _⟩⟩⟩⟩⟩⟩⟩⟩⟩⟩⟩⟩⟩⟩⟩⟩⟩⟩⟩⟩⟩⟩⟩⟩⟩⟩⟩⟩⟩⟩⟩⟩⟩⟩⟩⟩⟩⟩⟩
def loose0 : List Str := [("__name__" : Str), ("is_integer" : Str), ("is_list" : Str), ("is_ratio" : Str), ("is_number" : Str), ("FrameError" : Str), ("StateError" : Str), ("InvalidNumber" : Str), ("InvalidRow" : Str), ("NoElement" : Str), ("made" : Str), ("pair_of" : Str), ("common" : Str), ("cleared_of" : Str), ("r_plus" : Str), ("r_times" : Str), ("compared_of" : Str), ("r_total" : Str), ("r_dot" : Str), ("first_of" : Str), ("is_row" : Str), ("check_row" : Str), ("check_rows" : Str), ("total" : Str), ("least_of" : Str), ("greatest_of" : Str), ("dot" : Str), ("added" : Str), ("scaled" : Str), ("square" : Str)]
def loose1 : List Str := [("_law_pot" : Str), ("_law_draw" : Str), ("_law_same" : Str), ("_law_made" : Str), ("_law_pair" : Str), ("_law_plus" : Str), ("_law_times" : Str), ("_law_is_less" : Str), ("_law_sum" : Str), ("_law_dot" : Str), ("_law_great" : Str), ("_law_number" : Str), ("_law_least" : Str), ("_law_lists_right" : Str)]
def loose : List Str := loose0 ++ loose1
abbrev R : PySem.W.OpenRow := PySem.W.OpenLaw.row PySem.Challenge.rw_standsmore_k12_whole_rows
abbrev vw : List Nat := [0, 48]
abbrev lawAt : Nat := 48
abbrev lawIx : Nat := 38
end K12

namespace K12
open PySem PySem.Spec L2 Rf
abbrev hk : PySem.W.Hook := He.hookX 4 (faOf L) (L.map (·.D)) [] [] (exOf G.mods cs)
def ob (s : PySem.W.SharedT) : He.AlX := He.obsX 4 (faOf L) (L.map (·.D)) [] [] (exOf G.mods cs) (HandSHeadRun.getT s)
theorem ob_eq (s : PySem.W.SharedT) : ob s = hk.obs s.abs := He.obsX_eq (HandSHeadRun.getT_eq s)
theorem run (w : World) : HandSHeadRun.RunEqI R (PySem.W.view R.prog vw) hk ob 4000 loose w := by
  unfold HandSHeadRun.RunEqI
  kernel_rfl
end K12

namespace K12
open Rf PySem
local macro_rules | `(tactic| walk_at "d") => `(tactic| first | omega | assumption | exact den_ne _ | exact Int.mul_ne_zero (den_ne _) (den_ne _) | exact lcm_ne | exact Int.mul_ne_zero lcm_ne lcm_ne | trivial)
local macro_rules | `(tactic| walk_at "w") => walkS [] []
theorem fr_added : ((tblOf L)[i_added]?).any (fun d => d.fr) = true := rfl
def us_C1_0 : List Lean.Name := `fr_added :: []
local macro_rules | `(tactic| walk_at "w") => walkS [] us_C1_0
theorem fr_scaled : ((tblOf L)[i_scaled]?).any (fun d => d.fr) = true := rfl
def us_C1_1 : List Lean.Name := `fr_scaled :: us_C1_0
local macro_rules | `(tactic| walk_at "w") => walkS [] us_C1_1
theorem fr__law_pot : ((tblOf L)[i__law_pot]?).any (fun d => d.fr) = true := rfl
def us_C1_2 : List Lean.Name := `fr__law_pot :: us_C1_1
local macro_rules | `(tactic| walk_at "w") => walkS [] us_C1_2
def fuel : Nat := 2 ^ 10000
theorem fuel_ok : 2 ^ 9000 < fuel := Nat.pow_lt_pow_right (by omega) (by omega)
abbrev con : Nat → W := conOf cs
theorem f_is_integer {i : Int} : Fn L con fuel 1 i_is_integer [.int i] (· = .bl true) := by
  refine fn_hm (q := q_is_integer) (b := b_is_integer) (env := [some (.int i)]) (fr := false) rfl rfl rfl rfl rfl Fre.h fun M _ => ?_
  walk_at "w"
theorem s_is_integer {M : Sem} {k : Nat} [hM : HM L con fuel M k] {S : Store} {Q : W → Store → Prop} {i : Int} (hk : 1 ≤ k) : Wk M i_is_integer [.int i] S Q = Q (.bl true) S := (f_is_integer ).sim hM hk Fres.h
def ds_C1_3 : List Lean.Name := `s_is_integer :: []
local macro_rules | `(tactic| walk_at "w") => walkS ds_C1_3 us_C1_2

theorem f_is_integer__v2 {q : Rat} : Fn L con fuel 1 i_is_integer [rq q] (· = .bl false) := by
  refine fn_hm (q := q_is_integer) (b := b_is_integer) (env := [some (rq q)]) (fr := false) rfl rfl rfl rfl rfl Fre.h fun M _ => ?_
  walk_at "w"
theorem s_is_integer__v2 {M : Sem} {k : Nat} [hM : HM L con fuel M k] {S : Store} {Q : W → Store → Prop} {q : Rat} (hk : 1 ≤ k) : Wk M i_is_integer [rq q] S Q = Q (.bl false) S := (f_is_integer__v2 ).sim hM hk Fres.h
def ds_C1_4 : List Lean.Name := `s_is_integer__v2 :: ds_C1_3
local macro_rules | `(tactic| walk_at "w") => walkS ds_C1_4 us_C1_2

theorem f_is_list {w : W} {ws : List W} [h : SeqC w ws] [h' : Fres ws] : Fn L con fuel 1 i_is_list [w] (· = .bl true) := by
  refine fn_hm (q := q_is_list) (b := b_is_list) (env := [some (w)]) (fr := false) rfl rfl rfl rfl rfl Fre.h fun M _ => ?_
  walk_at "w"
theorem s_is_list {M : Sem} {k : Nat} [hM : HM L con fuel M k] {S : Store} {Q : W → Store → Prop} {w : W} {ws : List W} [h : SeqC w ws] [h' : Fres ws] (hk : 1 ≤ k) : Wk M i_is_list [w] S Q = Q (.bl true) S := (f_is_list ).sim hM hk Fres.h
def ds_C1_5 : List Lean.Name := `s_is_list :: ds_C1_4
local macro_rules | `(tactic| walk_at "w") => walkS ds_C1_5 us_C1_2

theorem f_is_ratio {q : Rat} : Fn L con fuel 2 i_is_ratio [rq q] (· = .bl true) := by
  refine fn_hm (q := q_is_ratio) (b := b_is_ratio) (env := [some (rq q)]) (fr := false) rfl rfl rfl rfl rfl Fre.h fun M _ => ?_
  simp only [rq]
  walk_at "w"
  have h1 : (0 : Int) < (q.den : Int) := by have := q.den_pos; omega
  rw [decide_eq_true h1]
  walk_at "w"
  rw [show q.num.natAbs.gcd ((q.den : Int)).natAbs = 1 from q.reduced]
  rfl
theorem s_is_ratio {M : Sem} {k : Nat} [hM : HM L con fuel M k] {S : Store} {Q : W → Store → Prop} {q : Rat} (hk : 2 ≤ k) : Wk M i_is_ratio [rq q] S Q = Q (.bl true) S := (f_is_ratio ).sim hM hk Fres.h
def ds_C1_6 : List Lean.Name := `s_is_ratio :: ds_C1_5
local macro_rules | `(tactic| walk_at "w") => walkS ds_C1_6 us_C1_2

theorem f_is_number {w : W} {q : Rat} [h : NumC w q] : Fn L con fuel 3 i_is_number [w] (· = .bl true) := by
  refine fn_hm (q := q_is_number) (b := b_is_number) (env := [some (w)]) (fr := false) rfl rfl rfl rfl rfl Fre.h fun M _ => ?_
  rcases h.h with rfl | ⟨i, rfl, rfl⟩
  · walk_at "w"
  · walk_at "w"
theorem s_is_number {M : Sem} {k : Nat} [hM : HM L con fuel M k] {S : Store} {Q : W → Store → Prop} {w : W} {q : Rat} [h : NumC w q] (hk : 3 ≤ k) : Wk M i_is_number [w] S Q = Q (.bl true) S := (f_is_number ).sim hM hk Fres.h
def ds_C1_7 : List Lean.Name := `s_is_number :: ds_C1_6
local macro_rules | `(tactic| walk_at "w") => walkS ds_C1_7 us_C1_2

theorem hMade : IsMade L con fuel 1 i_made := made_at (D := D_made) (ps := q_made.ps) (N := q_made.N) rfl
theorem f_made {a b : Int} {n m : Nat} [h : Siz a n] [h' : Siz b m] (hb : b ≠ 0) (hn : n ≤ 8000) (hm : m ≤ 8000) : Fn L con fuel 1 i_made [.int a, .int b] (· = rq (Rat.divInt a b)) :=
  hMade 1 a b (Nat.le_refl _) hb (h.h.up hn) (h'.h.up hm)
theorem s_made {M : Sem} {k : Nat} [hM : HM L con fuel M k] {S : Store} {Q : W → Store → Prop} {a b : Int} {n m : Nat} [h : Siz a n] [h' : Siz b m] (hb : b ≠ 0) (hn : n ≤ 8000) (hm : m ≤ 8000) (hk : 1 ≤ k) : Wk M i_made [.int a, .int b] S Q = Q (rq (Rat.divInt a b)) S := (f_made hb hn hm).sim hM hk Fres.h
def ds_C1_8 : List Lean.Name := `s_made :: ds_C1_7
local macro_rules | `(tactic| walk_at "w") => walkS ds_C1_8 us_C1_2

theorem f_pair_of {w : W} {q : Rat} [h : NumC w q] : Fn L con fuel 1 i_pair_of [w] (· = rq q) := by
  refine fn_hm (q := q_pair_of) (b := b_pair_of) (env := [some (w)]) (fr := false) rfl rfl rfl rfl rfl Fre.h fun M _ => ?_
  rcases h.h with rfl | ⟨i, rfl, rfl⟩
  · walk_at "w"
  · walk_at "w"
    rfl
theorem s_pair_of {M : Sem} {k : Nat} [hM : HM L con fuel M k] {S : Store} {Q : W → Store → Prop} {w : W} {q : Rat} [h : NumC w q] (hk : 1 ≤ k) : Wk M i_pair_of [w] S Q = Q (rq q) S := (f_pair_of ).sim hM hk Fres.h
def ds_C1_9 : List Lean.Name := `s_pair_of :: ds_C1_8
local macro_rules | `(tactic| walk_at "w") => walkS ds_C1_9 us_C1_2

theorem f_r_plus {p q : Rat} {n m : Nat} [h : Szb p n] [h' : Szb q m] (hn : n + m ≤ 3900) : Fn L con fuel 2 i_r_plus [rq p, rq q] (· = rq (p + q)) := by
  refine fn_hm (q := q_r_plus) (b := b_r_plus) (env := [some (rq p), some (rq q)]) (fr := false) rfl rfl rfl rfl rfl Fre.h fun M _ => ?_
  walk_at "w"
theorem s_r_plus {M : Sem} {k : Nat} [hM : HM L con fuel M k] {S : Store} {Q : W → Store → Prop} {p q : Rat} {n m : Nat} [h : Szb p n] [h' : Szb q m] (hn : n + m ≤ 3900) (hk : 2 ≤ k) : Wk M i_r_plus [rq p, rq q] S Q = Q (rq (p + q)) S := (f_r_plus hn).sim hM hk Fres.h
def ds_C1_10 : List Lean.Name := `s_r_plus :: ds_C1_9
local macro_rules | `(tactic| walk_at "w") => walkS ds_C1_10 us_C1_2


theorem f_r_times {p q : Rat} {n m : Nat} [h : Szb p n] [h' : Szb q m] (hn : n + m ≤ 3900) : Fn L con fuel 2 i_r_times [rq p, rq q] (· = rq (p * q)) := by
  refine fn_hm (q := q_r_times) (b := b_r_times) (env := [some (rq p), some (rq q)]) (fr := false) rfl rfl rfl rfl rfl Fre.h fun M _ => ?_
  walk_at "w"
theorem s_r_times {M : Sem} {k : Nat} [hM : HM L con fuel M k] {S : Store} {Q : W → Store → Prop} {p q : Rat} {n m : Nat} [h : Szb p n] [h' : Szb q m] (hn : n + m ≤ 3900) (hk : 2 ≤ k) : Wk M i_r_times [rq p, rq q] S Q = Q (rq (p * q)) S := (f_r_times hn).sim hM hk Fres.h
def ds_C1_11 : List Lean.Name := `s_r_times :: ds_C1_10
local macro_rules | `(tactic| walk_at "w") => walkS ds_C1_11 us_C1_2


theorem f_compared_of {p q : Rat} {n m : Nat} [h : Szb p n] [h' : Szb q m] (hn : n + m ≤ 3900) : Fn L con fuel 1 i_compared_of [rq p, rq q] (· = .int (cmpR p q)) := by
  refine fn_hm (q := q_compared_of) (b := b_compared_of) (env := [some (rq p), some (rq q), none, none]) (fr := false) rfl rfl rfl rfl rfl Fre.h fun M _ => ?_
  walk_at "w"
  unfold cmpR
  simp only [Rat.lt_iff]
theorem s_compared_of {M : Sem} {k : Nat} [hM : HM L con fuel M k] {S : Store} {Q : W → Store → Prop} {p q : Rat} {n m : Nat} [h : Szb p n] [h' : Szb q m] (hn : n + m ≤ 3900) (hk : 1 ≤ k) : Wk M i_compared_of [rq p, rq q] S Q = Q (.int (cmpR p q)) S := (f_compared_of hn).sim hM hk Fres.h
def ds_C1_12 : List Lean.Name := `s_compared_of :: ds_C1_11
local macro_rules | `(tactic| walk_at "w") => walkS ds_C1_12 us_C1_2


theorem f_common {qs : List Rat} {n m : Nat} [h : Szl qs n] [h' : LenC qs m] (hn : n * m ≤ 3900) (hn2 : n ≤ 2000) : Fn L con fuel 1 i_common [.lst (qs.map rq)] (· = .int (lcmD 1 qs : Nat)) := by
  refine fn_hm (q := q_common) (b := b_common) (env := [some (.lst (qs.map rq)), none, none, none]) (fr := false) rfl rfl rfl rfl rfl Fre.h fun M _ => ?_
  walk_at "w"
  have hl : 1 + n * qs.length ≤ 3901 := by have := Nat.mul_le_mul_left n h'.h; omega
  refine wr_forL (I := fun xs env S => ∃ (c k : Nat) (t u : Option W), env = [some (.lst (qs.map rq)), some (.int (c : Nat)), t, u] ∧ lcmD c xs = lcmD 1 qs ∧ Sz k (c : Int) ∧ k + n * xs.length ≤ 3901 ∧ Rzs n xs) (fun q xs env S ⟨c, k, t, u, e2, e3, e4, e5, e6⟩ => ?_) (fun env S ⟨c, k, t, u, e2, e3, e4, e5, e6⟩ => ?_) _ _ _ ⟨1, 1, none, none, rfl, rfl, by unfold Sz; decide, hl, h.h⟩
  · subst e2
    have hq := e6 q List.mem_cons_self
    rw [List.length_cons, Nat.mul_succ] at e5
    walk_at "w"
    rw [wo_lcm ⟨?_, ?_⟩]
    · exact ⟨c.lcm q.den, k + n, _, _, rfl, e3, sz_lcm e4 hq.2, by omega, fun p hp => e6 p (List.mem_cons_of_mem _ hp)⟩
    · have := e4.log; omega
    · have := hq.2.log; omega
  · subst e2
    walk_at "w"
    rw [← e3]; rfl
theorem s_common {M : Sem} {k : Nat} [hM : HM L con fuel M k] {S : Store} {Q : W → Store → Prop} {qs : List Rat} {n m : Nat} [h : Szl qs n] [h' : LenC qs m] (hn : n * m ≤ 3900) (hn2 : n ≤ 2000) (hk : 1 ≤ k) : Wk M i_common [.lst (qs.map rq)] S Q = Q (.int (lcmD 1 qs : Nat)) S := (f_common hn hn2).sim hM hk Fres.h
def ds_C1_13 : List Lean.Name := `s_common :: ds_C1_12
local macro_rules | `(tactic| walk_at "w") => walkS ds_C1_13 us_C1_2

theorem f_cleared_of {w : W} {ws : List W} {qs : List Rat} {n m : Nat} [h0 : SeqC w ws] [h1 : RowC ws qs] [h : Szl qs n] [h' : LenC qs m] (hn : n * m ≤ 3900) (hn2 : n ≤ 2000) (hm : m ≤ 1000) : Fn L con fuel 2 i_cleared_of [w] (· = .tup [.lst ((topsD (lcmD 1 qs) qs).map .int), .int (lcmD 1 qs : Nat)]) := by
  refine fn_hm (q := q_cleared_of) (b := b_cleared_of) (env := [some (w), none, none, none, none, none]) (fr := false) rfl rfl rfl rfl rfl Fre.h fun M _ => ?_
  obtain ⟨ns, rfl, rfl⟩ := row_ex h1.h
  have : LenC ns m := ⟨by have := h'.h; rwa [List.length_map] at this⟩
  walk_at "w"
  rw [wg_map (fun n => rq n.q) (fun x hx => by walk_at "w") (by omega)]
  rw [show (ns.map fun n => rq n.q) = (ns.map Num.q).map rq from by rw [List.map_map]; rfl]
  generalize ns.map Num.q = qs at *
  walk_at "w"
  rw [wg_map (fun q => W.int (q.num * ((lcmD 1 qs : Nat) : Int).fdiv q.den)) (fun q hq => by
    have := szb_of hq
    walk_at "w") (by omega)]
  unfold topsD
  walk_at "w"
  rw [List.map_map]; rfl
theorem s_cleared_of {M : Sem} {k : Nat} [hM : HM L con fuel M k] {S : Store} {Q : W → Store → Prop} {w : W} {ws : List W} {qs : List Rat} {n m : Nat} [h0 : SeqC w ws] [h1 : RowC ws qs] [h : Szl qs n] [h' : LenC qs m] (hn : n * m ≤ 3900) (hn2 : n ≤ 2000) (hm : m ≤ 1000) (hk : 2 ≤ k) : Wk M i_cleared_of [w] S Q = Q (.tup [.lst ((topsD (lcmD 1 qs) qs).map .int), .int (lcmD 1 qs : Nat)]) S := (f_cleared_of hn hn2 hm).sim hM hk Fres.h
def ds_C1_14 : List Lean.Name := `s_cleared_of :: ds_C1_13
local macro_rules | `(tactic| walk_at "w") => walkS ds_C1_14 us_C1_2

theorem f_r_total {w : W} {ws : List W} {qs : List Rat} {n m : Nat} [h0 : SeqC w ws] [h1 : RowC ws qs] [h : Szl qs n] [h' : LenC qs m] (hn : n * m ≤ 3900) (hn2 : n ≤ 2000) (hm : m ≤ 1000) : Fn L con fuel 3 i_r_total [w] (· = rq qs.sum) := by
  refine fn_hm (q := q_r_total) (b := b_r_total) (env := [some (w), none, none]) (fr := false) rfl rfl rfl rfl rfl Fre.h fun M _ => ?_
  walk_at "w"
theorem s_r_total {M : Sem} {k : Nat} [hM : HM L con fuel M k] {S : Store} {Q : W → Store → Prop} {w : W} {ws : List W} {qs : List Rat} {n m : Nat} [h0 : SeqC w ws] [h1 : RowC ws qs] [h : Szl qs n] [h' : LenC qs m] (hn : n * m ≤ 3900) (hn2 : n ≤ 2000) (hm : m ≤ 1000) (hk : 3 ≤ k) : Wk M i_r_total [w] S Q = Q (rq qs.sum) S := (f_r_total hn hn2 hm).sim hM hk Fres.h
def ds_C1_15 : List Lean.Name := `s_r_total :: ds_C1_14
local macro_rules | `(tactic| walk_at "w") => walkS ds_C1_15 us_C1_2

theorem f_r_dot {w u : W} {ws us : List W} {qs rs : List Rat} {n m n' m' : Nat} [h0 : SeqC w ws] [h1 : RowC ws qs] [h : Szl qs n] [h' : LenC qs m] [k0 : SeqC u us] [k1 : RowC us rs] [j : Szl rs n'] [k' : LenC rs m'] (hn : n * m ≤ 1500) (hn2 : n ≤ 700) (hm : m ≤ 500) (hn' : n' * m' ≤ 1500) (hn2' : n' ≤ 700) (hm' : m' ≤ 500) : Fn L con fuel 3 i_r_dot [w, u] (· = rq (dotQ qs rs)) := by
  refine fn_hm (q := q_r_dot) (b := b_r_dot) (env := [some (w), some (u), none, none, none, none, none, none]) (fr := false) rfl rfl rfl rfl rfl Fre.h fun M _ => ?_
  walk_at "w"
  rw [wg_map (fun p : Int × Int => W.int (p.1 * p.2)) (fun p hp => by
    have := siz_of (List.of_mem_zip hp).1
    have := siz_of (List.of_mem_zip hp).2
    walk_at "w") (by omega)]
  walk_at "w"
theorem s_r_dot {M : Sem} {k : Nat} [hM : HM L con fuel M k] {S : Store} {Q : W → Store → Prop} {w u : W} {ws us : List W} {qs rs : List Rat} {n m n' m' : Nat} [h0 : SeqC w ws] [h1 : RowC ws qs] [h : Szl qs n] [h' : LenC qs m] [k0 : SeqC u us] [k1 : RowC us rs] [j : Szl rs n'] [k' : LenC rs m'] (hn : n * m ≤ 1500) (hn2 : n ≤ 700) (hm : m ≤ 500) (hn' : n' * m' ≤ 1500) (hn2' : n' ≤ 700) (hm' : m' ≤ 500) (hk : 3 ≤ k) : Wk M i_r_dot [w, u] S Q = Q (rq (dotQ qs rs)) S := (f_r_dot hn hn2 hm hn' hn2' hm').sim hM hk Fres.h
def ds_C1_16 : List Lean.Name := `s_r_dot :: ds_C1_15
local macro_rules | `(tactic| walk_at "w") => walkS ds_C1_16 us_C1_2

theorem f_first_of {w x : W} {ws : List W} {q : Rat} {qs : List Rat} {side : Int} {n m : Nat} [h0 : SeqC w (x :: ws)] [hx : NumC x q] [h1 : RowC ws qs] [hq : Szb q n] [h : Szl qs m] (hn : n ≤ 100) (hm : m ≤ 100) : Fn L con fuel 2 i_first_of [w, .int side] (· = rq (firstQ side q qs)) :=
  first_at (D := D_first_of) (ps := q_first_of.ps) (N := q_first_of.N) (D1 := D_pair_of) (p1 := q_pair_of.ps) (n1 := q_pair_of.N) (D2 := D_compared_of) (p2 := q_compared_of.ps) (n2 := q_compared_of.N) (pr := i_pair_of) (cp := i_compared_of) rfl rfl rfl h0.h hx.h h1.h (hq.h.up hn) fun q hq => (h.h q hq).up hm
theorem s_first_of {M : Sem} {k : Nat} [hM : HM L con fuel M k] {S : Store} {Q : W → Store → Prop} {w x : W} {ws : List W} {q : Rat} {qs : List Rat} {side : Int} {n m : Nat} [h0 : SeqC w (x :: ws)] [hx : NumC x q] [h1 : RowC ws qs] [hq : Szb q n] [h : Szl qs m] (hn : n ≤ 100) (hm : m ≤ 100) (hk : 2 ≤ k) : Wk M i_first_of [w, .int side] S Q = Q (rq (firstQ side q qs)) S := (f_first_of hn hm).sim hM hk Fres.h
def ds_C1_17 : List Lean.Name := `s_first_of :: ds_C1_16
local macro_rules | `(tactic| walk_at "w") => walkS ds_C1_17 us_C1_2

theorem f_is_row {w : W} {ws : List W} {qs : List Rat} {m : Nat} [h0 : SeqC w ws] [h1 : RowC ws qs] [h' : LenC qs m] (hm : m ≤ 1000) : Fn L con fuel 4 i_is_row [w] (· = .bl true) := by
  refine fn_hm (q := q_is_row) (b := b_is_row) (env := [some (w), none]) (fr := false) rfl rfl rfl rfl rfl Fre.h fun M _ => ?_
  obtain ⟨ns, rfl, rfl⟩ := row_ex h1.h
  have : LenC ns m := ⟨by have := h'.h; rwa [List.length_map] at this⟩
  walk_at "w"
  rw [wg_map (fun n => W.bl true) (fun x hx => by walk_at "w") (by omega)]
  walk_at "w"
  simp
theorem s_is_row {M : Sem} {k : Nat} [hM : HM L con fuel M k] {S : Store} {Q : W → Store → Prop} {w : W} {ws : List W} {qs : List Rat} {m : Nat} [h0 : SeqC w ws] [h1 : RowC ws qs] [h' : LenC qs m] (hm : m ≤ 1000) (hk : 4 ≤ k) : Wk M i_is_row [w] S Q = Q (.bl true) S := (f_is_row hm).sim hM hk Fres.h
def ds_C1_18 : List Lean.Name := `s_is_row :: ds_C1_17
local macro_rules | `(tactic| walk_at "w") => walkS ds_C1_18 us_C1_2



theorem f_check_row {w : W} {ws : List W} {qs : List Rat} {m : Nat} [h0 : SeqC w ws] [h1 : RowC ws qs] [h' : LenC qs m] (hm : m ≤ 1000) : Fn L con fuel 5 i_check_row [w] (· = .non) := by
  refine fn_hm (q := q_check_row) (b := b_check_row) (env := [some (w)]) (fr := false) rfl rfl rfl rfl rfl Fre.h fun M _ => ?_
  walk_at "w"
theorem s_check_row {M : Sem} {k : Nat} [hM : HM L con fuel M k] {S : Store} {Q : W → Store → Prop} {w : W} {ws : List W} {qs : List Rat} {m : Nat} [h0 : SeqC w ws] [h1 : RowC ws qs] [h' : LenC qs m] (hm : m ≤ 1000) (hk : 5 ≤ k) : Wk M i_check_row [w] S Q = Q (.non) S := (f_check_row hm).sim hM hk Fres.h
def ds_C1_19 : List Lean.Name := `s_check_row :: ds_C1_18
local macro_rules | `(tactic| walk_at "w") => walkS ds_C1_19 us_C1_2

theorem f_check_rows {w u : W} {ws us : List W} {qs rs : List Rat} {m m' : Nat} [h0 : SeqC w ws] [h1 : RowC ws qs] [h' : LenC qs m] [k0 : SeqC u us] [k1 : RowC us rs] [k' : LenC rs m'] (hm : m ≤ 1000) (hm' : m' ≤ 1000) (hl : rs.length = qs.length) : Fn L con fuel 6 i_check_rows [w, u] (· = .non) := by
  refine fn_hm (q := q_check_rows) (b := b_check_rows) (env := [some (w), some (u)]) (fr := false) rfl rfl rfl rfl rfl Fre.h fun M _ => ?_
  have e1 := h1.h.length
  have e2 := k1.h.length
  walk_at "w"
  rw [e1, e2, hl]
  walk_at "w"
theorem s_check_rows {M : Sem} {k : Nat} [hM : HM L con fuel M k] {S : Store} {Q : W → Store → Prop} {w u : W} {ws us : List W} {qs rs : List Rat} {m m' : Nat} [h0 : SeqC w ws] [h1 : RowC ws qs] [h' : LenC qs m] [k0 : SeqC u us] [k1 : RowC us rs] [k' : LenC rs m'] (hm : m ≤ 1000) (hm' : m' ≤ 1000) (hl : rs.length = qs.length) (hk : 6 ≤ k) : Wk M i_check_rows [w, u] S Q = Q (.non) S := (f_check_rows hm hm' hl).sim hM hk Fres.h
def ds_C1_20 : List Lean.Name := `s_check_rows :: ds_C1_19
local macro_rules | `(tactic| walk_at "w") => walkS ds_C1_20 us_C1_2

theorem f_total {w : W} {ws : List W} {qs : List Rat} {n m : Nat} [h0 : SeqC w ws] [h1 : RowC ws qs] [h : Szl qs n] [h' : LenC qs m] (hn : n * m ≤ 3900) (hn2 : n ≤ 2000) (hm : m ≤ 1000) : Fn L con fuel 6 i_total [w] (· = rq qs.sum) := by
  refine fn_hm (q := q_total) (b := b_total) (env := [some (w)]) (fr := false) rfl rfl rfl rfl rfl Fre.h fun M _ => ?_
  walk_at "w"
theorem s_total {M : Sem} {k : Nat} [hM : HM L con fuel M k] {S : Store} {Q : W → Store → Prop} {w : W} {ws : List W} {qs : List Rat} {n m : Nat} [h0 : SeqC w ws] [h1 : RowC ws qs] [h : Szl qs n] [h' : LenC qs m] (hn : n * m ≤ 3900) (hn2 : n ≤ 2000) (hm : m ≤ 1000) (hk : 6 ≤ k) : Wk M i_total [w] S Q = Q (rq qs.sum) S := (f_total hn hn2 hm).sim hM hk Fres.h
def ds_C1_21 : List Lean.Name := `s_total :: ds_C1_20
local macro_rules | `(tactic| walk_at "w") => walkS ds_C1_21 us_C1_2

theorem f_square {w : W} {ws : List W} {qs : List Rat} {n m : Nat} [h0 : SeqC w ws] [h1 : RowC ws qs] [h : Szl qs n] [h' : LenC qs m] (hn : n * m ≤ 1500) (hn2 : n ≤ 700) (hm : m ≤ 500) : Fn L con fuel 6 i_square [w] (· = rq (dotQ qs qs)) := by
  refine fn_hm (q := q_square) (b := b_square) (env := [some (w)]) (fr := false) rfl rfl rfl rfl rfl Fre.h fun M _ => ?_
  walk_at "w"
theorem s_square {M : Sem} {k : Nat} [hM : HM L con fuel M k] {S : Store} {Q : W → Store → Prop} {w : W} {ws : List W} {qs : List Rat} {n m : Nat} [h0 : SeqC w ws] [h1 : RowC ws qs] [h : Szl qs n] [h' : LenC qs m] (hn : n * m ≤ 1500) (hn2 : n ≤ 700) (hm : m ≤ 500) (hk : 6 ≤ k) : Wk M i_square [w] S Q = Q (rq (dotQ qs qs)) S := (f_square hn hn2 hm).sim hM hk Fres.h
def ds_C1_22 : List Lean.Name := `s_square :: ds_C1_21
local macro_rules | `(tactic| walk_at "w") => walkS ds_C1_22 us_C1_2

theorem f_dot {w u : W} {ws us : List W} {qs rs : List Rat} {n m n' m' : Nat} [h0 : SeqC w ws] [h1 : RowC ws qs] [h : Szl qs n] [h' : LenC qs m] [k0 : SeqC u us] [k1 : RowC us rs] [j : Szl rs n'] [k' : LenC rs m'] (hn : n * m ≤ 1500) (hn2 : n ≤ 700) (hm : m ≤ 500) (hn' : n' * m' ≤ 1500) (hn2' : n' ≤ 700) (hm' : m' ≤ 500) (hl : rs.length = qs.length) : Fn L con fuel 7 i_dot [w, u] (· = rq (dotQ qs rs)) := by
  refine fn_hm (q := q_dot) (b := b_dot) (env := [some (w), some (u)]) (fr := false) rfl rfl rfl rfl rfl Fre.h fun M _ => ?_
  walk_at "w"
theorem s_dot {M : Sem} {k : Nat} [hM : HM L con fuel M k] {S : Store} {Q : W → Store → Prop} {w u : W} {ws us : List W} {qs rs : List Rat} {n m n' m' : Nat} [h0 : SeqC w ws] [h1 : RowC ws qs] [h : Szl qs n] [h' : LenC qs m] [k0 : SeqC u us] [k1 : RowC us rs] [j : Szl rs n'] [k' : LenC rs m'] (hn : n * m ≤ 1500) (hn2 : n ≤ 700) (hm : m ≤ 500) (hn' : n' * m' ≤ 1500) (hn2' : n' ≤ 700) (hm' : m' ≤ 500) (hl : rs.length = qs.length) (hk : 7 ≤ k) : Wk M i_dot [w, u] S Q = Q (rq (dotQ qs rs)) S := (f_dot hn hn2 hm hn' hn2' hm' hl).sim hM hk Fres.h
def ds_C1_23 : List Lean.Name := `s_dot :: ds_C1_22
local macro_rules | `(tactic| walk_at "w") => walkS ds_C1_23 us_C1_2

theorem f_least_of {w x : W} {ws : List W} {q : Rat} {qs : List Rat} {n m l : Nat} [h0 : SeqC w (x :: ws)] [hx : NumC x q] [h1 : RowC ws qs] [hq : Szb q n] [h : Szl qs m] [hl : LenC qs l] (hn : n ≤ 100) (hm : m ≤ 100) (hll : l ≤ 900) : Fn L con fuel 6 i_least_of [w] (· = rq (firstQ (-1) q qs)) := by
  refine fn_hm (q := q_least_of) (b := b_least_of) (env := [some (w)]) (fr := false) rfl rfl rfl rfl rfl Fre.h fun M _ => ?_
  walk_at "w"
theorem s_least_of {M : Sem} {k : Nat} [hM : HM L con fuel M k] {S : Store} {Q : W → Store → Prop} {w x : W} {ws : List W} {q : Rat} {qs : List Rat} {n m l : Nat} [h0 : SeqC w (x :: ws)] [hx : NumC x q] [h1 : RowC ws qs] [hq : Szb q n] [h : Szl qs m] [hl : LenC qs l] (hn : n ≤ 100) (hm : m ≤ 100) (hll : l ≤ 900) (hk : 6 ≤ k) : Wk M i_least_of [w] S Q = Q (rq (firstQ (-1) q qs)) S := (f_least_of hn hm hll).sim hM hk Fres.h
def ds_C1_24 : List Lean.Name := `s_least_of :: ds_C1_23
local macro_rules | `(tactic| walk_at "w") => walkS ds_C1_24 us_C1_2

theorem f_greatest_of {w x : W} {ws : List W} {q : Rat} {qs : List Rat} {n m l : Nat} [h0 : SeqC w (x :: ws)] [hx : NumC x q] [h1 : RowC ws qs] [hq : Szb q n] [h : Szl qs m] [hl : LenC qs l] (hn : n ≤ 100) (hm : m ≤ 100) (hll : l ≤ 900) : Fn L con fuel 6 i_greatest_of [w] (· = rq (firstQ 1 q qs)) := by
  refine fn_hm (q := q_greatest_of) (b := b_greatest_of) (env := [some (w)]) (fr := false) rfl rfl rfl rfl rfl Fre.h fun M _ => ?_
  walk_at "w"
theorem s_greatest_of {M : Sem} {k : Nat} [hM : HM L con fuel M k] {S : Store} {Q : W → Store → Prop} {w x : W} {ws : List W} {q : Rat} {qs : List Rat} {n m l : Nat} [h0 : SeqC w (x :: ws)] [hx : NumC x q] [h1 : RowC ws qs] [hq : Szb q n] [h : Szl qs m] [hl : LenC qs l] (hn : n ≤ 100) (hm : m ≤ 100) (hll : l ≤ 900) (hk : 6 ≤ k) : Wk M i_greatest_of [w] S Q = Q (rq (firstQ 1 q qs)) S := (f_greatest_of hn hm hll).sim hM hk Fres.h
def ds_C1_25 : List Lean.Name := `s_greatest_of :: ds_C1_24
local macro_rules | `(tactic| walk_at "w") => walkS ds_C1_25 us_C1_2

theorem f_added {w u : W} {ws us : List W} {qs rs : List Rat} {n m n' m' : Nat} [h0 : SeqC w ws] [h1 : RowC ws qs] [h : Szl qs n] [h' : LenC qs m] [k0 : SeqC u us] [k1 : RowC us rs] [j : Szl rs n'] [k' : LenC rs m'] (hn : n + n' ≤ 3900) (hm : m ≤ 500) (hm' : m' ≤ 500) (hl : rs.length = qs.length) : Fn L con fuel 7 i_added [w, u] (· = .lst ((List.zipWith (· + ·) qs rs).map rq)) := by
  refine fn_hm (q := q_added) (b := b_added) (env := [some (w), some (u), none, none]) (fr := true) rfl rfl rfl rfl rfl Fre.h fun M _ => ?_
  walk_at "w"
  obtain ⟨xs, rfl, rfl⟩ := row_ex h1.h
  obtain ⟨ys, rfl, rfl⟩ := row_ex k1.h
  have : LenC xs m := ⟨by have := h'.h; rwa [List.length_map] at this⟩
  walk_at "w"
  rw [wg_map (fun p : Num × Num => rq (p.1.q + p.2.q)) (fun p hp => by
    have := szb_num (List.of_mem_zip hp).1
    have := szb_num (List.of_mem_zip hp).2
    walk_at "w") (by omega)]
  rw [List.zipWith_map_left, List.zipWith_map_right, List.map_zipWith, zipW_zip]
theorem s_added {M : Sem} {k : Nat} [hM : HM L con fuel M k] {S : Store} {Q : W → Store → Prop} {w u : W} {ws us : List W} {qs rs : List Rat} {n m n' m' : Nat} [h0 : SeqC w ws] [h1 : RowC ws qs] [h : Szl qs n] [h' : LenC qs m] [k0 : SeqC u us] [k1 : RowC us rs] [j : Szl rs n'] [k' : LenC rs m'] (hn : n + n' ≤ 3900) (hm : m ≤ 500) (hm' : m' ≤ 500) (hl : rs.length = qs.length) (hk : 7 ≤ k) : Wk M i_added [w, u] S Q = Q (.lst ((List.zipWith (· + ·) qs rs).map rq)) S := (f_added hn hm hm' hl).sim hM hk Fres.h
def ds_C1_26 : List Lean.Name := `s_added :: ds_C1_25
local macro_rules | `(tactic| walk_at "w") => walkS ds_C1_26 us_C1_2

theorem f_scaled {w u : W} {ws : List W} {qs : List Rat} {p : Rat} {n m n' : Nat} [h0 : SeqC w ws] [h1 : RowC ws qs] [h : Szl qs n] [h' : LenC qs m] [k0 : NumC u p] [j : Szb p n'] (hn : n + n' ≤ 3900) (hm : m ≤ 500) : Fn L con fuel 6 i_scaled [w, u] (· = .lst ((qs.map (· * p)).map rq)) := by
  refine fn_hm (q := q_scaled) (b := b_scaled) (env := [some (w), some (u), none]) (fr := true) rfl rfl rfl rfl rfl Fre.h fun M _ => ?_
  walk_at "w"
  obtain ⟨xs, rfl, rfl⟩ := row_ex h1.h
  have : LenC xs m := ⟨by have := h'.h; rwa [List.length_map] at this⟩
  rw [wg_map (fun x : Num => rq (x.q * p)) (fun x hx => by
    have := szb_num hx
    walk_at "w") (by omega)]
  rw [List.map_map, List.map_map]; rfl
theorem s_scaled {M : Sem} {k : Nat} [hM : HM L con fuel M k] {S : Store} {Q : W → Store → Prop} {w u : W} {ws : List W} {qs : List Rat} {p : Rat} {n m n' : Nat} [h0 : SeqC w ws] [h1 : RowC ws qs] [h : Szl qs n] [h' : LenC qs m] [k0 : NumC u p] [j : Szb p n'] (hn : n + n' ≤ 3900) (hm : m ≤ 500) (hk : 6 ≤ k) : Wk M i_scaled [w, u] S Q = Q (.lst ((qs.map (· * p)).map rq)) S := (f_scaled hn hm).sim hM hk Fres.h
def ds_C1_27 : List Lean.Name := `s_scaled :: ds_C1_26
local macro_rules | `(tactic| walk_at "w") => walkS ds_C1_27 us_C1_2


end K12

namespace K12
open Rf PySem
local macro_rules | `(tactic| walk_at "d") => `(tactic| first | omega | assumption | exact den_ne _ | exact Int.mul_ne_zero (den_ne _) (den_ne _) | exact lcm_ne | exact Int.mul_ne_zero lcm_ne lcm_ne | trivial)
local macro_rules | `(tactic| walk_at "w") => walkS ds_C1_27 us_C1_2
theorem hLMade : IsMade L con fuel 1 i__law_made := lawMade_at (D := D__law_made) (ps := q__law_made.ps) (N := q__law_made.N) rfl fuel_ok
theorem f__law_made {a b : Int} {n m : Nat} [h : Siz a n] [h' : Siz b m] (hb : b ≠ 0) (hn : n ≤ 8000) (hm : m ≤ 8000) : Fn L con fuel 1 i__law_made [.int a, .int b] (· = rq (Rat.divInt a b)) :=
  hLMade 1 a b (Nat.le_refl _) hb (h.h.up hn) (h'.h.up hm)
theorem s__law_made {M : Sem} {k : Nat} [hM : HM L con fuel M k] {S : Store} {Q : W → Store → Prop} {a b : Int} {n m : Nat} [h : Siz a n] [h' : Siz b m] (hb : b ≠ 0) (hn : n ≤ 8000) (hm : m ≤ 8000) (hk : 1 ≤ k) : Wk M i__law_made [.int a, .int b] S Q = Q (rq (Rat.divInt a b)) S := (f__law_made hb hn hm).sim hM hk Fres.h
def ds_A1_0 : List Lean.Name := `s__law_made :: ds_C1_27
local macro_rules | `(tactic| walk_at "w") => walkS ds_A1_0 us_C1_2

theorem f__law_pair {w : W} {q : Rat} [h : NumC w q] : Fn L con fuel 1 i__law_pair [w] (· = rq q) := by
  refine fn_hm (q := q__law_pair) (b := b__law_pair) (env := [some (w)]) (fr := false) rfl rfl rfl rfl rfl Fre.h fun M _ => ?_
  rcases h.h with rfl | ⟨i, rfl, rfl⟩
  · walk_at "w"
  · walk_at "w"
    rfl
theorem s__law_pair {M : Sem} {k : Nat} [hM : HM L con fuel M k] {S : Store} {Q : W → Store → Prop} {w : W} {q : Rat} [h : NumC w q] (hk : 1 ≤ k) : Wk M i__law_pair [w] S Q = Q (rq q) S := (f__law_pair ).sim hM hk Fres.h
def ds_A1_1 : List Lean.Name := `s__law_pair :: ds_A1_0
local macro_rules | `(tactic| walk_at "w") => walkS ds_A1_1 us_C1_2

theorem f__law_plus {p q : Rat} {n m : Nat} [h : Szb p n] [h' : Szb q m] (hn : n + m ≤ 3900) : Fn L con fuel 2 i__law_plus [rq p, rq q] (· = rq (p + q)) := by
  refine fn_hm (q := q__law_plus) (b := b__law_plus) (env := [some (rq p), some (rq q)]) (fr := false) rfl rfl rfl rfl rfl Fre.h fun M _ => ?_
  walk_at "w"
theorem s__law_plus {M : Sem} {k : Nat} [hM : HM L con fuel M k] {S : Store} {Q : W → Store → Prop} {p q : Rat} {n m : Nat} [h : Szb p n] [h' : Szb q m] (hn : n + m ≤ 3900) (hk : 2 ≤ k) : Wk M i__law_plus [rq p, rq q] S Q = Q (rq (p + q)) S := (f__law_plus hn).sim hM hk Fres.h
def ds_A1_2 : List Lean.Name := `s__law_plus :: ds_A1_1
local macro_rules | `(tactic| walk_at "w") => walkS ds_A1_2 us_C1_2


theorem f__law_times {p q : Rat} {n m : Nat} [h : Szb p n] [h' : Szb q m] (hn : n + m ≤ 3900) : Fn L con fuel 2 i__law_times [rq p, rq q] (· = rq (p * q)) := by
  refine fn_hm (q := q__law_times) (b := b__law_times) (env := [some (rq p), some (rq q)]) (fr := false) rfl rfl rfl rfl rfl Fre.h fun M _ => ?_
  walk_at "w"
theorem s__law_times {M : Sem} {k : Nat} [hM : HM L con fuel M k] {S : Store} {Q : W → Store → Prop} {p q : Rat} {n m : Nat} [h : Szb p n] [h' : Szb q m] (hn : n + m ≤ 3900) (hk : 2 ≤ k) : Wk M i__law_times [rq p, rq q] S Q = Q (rq (p * q)) S := (f__law_times hn).sim hM hk Fres.h
def ds_A1_3 : List Lean.Name := `s__law_times :: ds_A1_2
local macro_rules | `(tactic| walk_at "w") => walkS ds_A1_3 us_C1_2


theorem f__law_is_less {p q : Rat} {n m : Nat} [h : Szb p n] [h' : Szb q m] (hn : n + m ≤ 3900) : Fn L con fuel 1 i__law_is_less [rq p, rq q] (· = .bl (decide (p < q))) := by
  refine fn_hm (q := q__law_is_less) (b := b__law_is_less) (env := [some (rq p), some (rq q)]) (fr := false) rfl rfl rfl rfl rfl Fre.h fun M _ => ?_
  walk_at "w"
  simp only [Rat.lt_iff]
theorem s__law_is_less {M : Sem} {k : Nat} [hM : HM L con fuel M k] {S : Store} {Q : W → Store → Prop} {p q : Rat} {n m : Nat} [h : Szb p n] [h' : Szb q m] (hn : n + m ≤ 3900) (hk : 1 ≤ k) : Wk M i__law_is_less [rq p, rq q] S Q = Q (.bl (decide (p < q))) S := (f__law_is_less hn).sim hM hk Fres.h
def ds_A1_4 : List Lean.Name := `s__law_is_less :: ds_A1_3
local macro_rules | `(tactic| walk_at "w") => walkS ds_A1_4 us_C1_2

theorem f__law_sum {w : W} {qs : List Rat} {n m : Nat} [h0 : SeqC w (qs.map rq)] [h : Szl qs n] [h' : LenC qs m] (hn : n * m ≤ 1500) (hm : m ≤ 1500) (hn2 : n ≤ 700) : Fn L con fuel 3 i__law_sum [w] (· = rq qs.sum) := by
  refine fn_hm (q := q__law_sum) (b := b__law_sum) (env := [some (w), none, none]) (fr := false) rfl rfl rfl rfl rfl Fre.h fun M _ => ?_
  walk_at "w"
  have hl : n * qs.length ≤ 1500 := by have := Nat.mul_le_mul_left n h'.h; omega
  have hl2 := h'.h
  refine wr_forL (I := fun xs env S => ∃ (s : Rat) (k : Nat) (t : Option W), env = [some w, some (rq s), t] ∧ s + xs.sum = qs.sum ∧ Rz k s ∧ k + n * xs.length + xs.length ≤ 3002 ∧ Rzs n xs) (fun q xs env S ⟨s, k, t, e2, e3, e4, e5, e6⟩ => ?_) (fun env S ⟨s, k, t, e2, e3, e4, e5, e6⟩ => ?_) _ _ _ ⟨0, 1, none, rfl, Rat.zero_add _, szb_0.h, by omega, h.h⟩
  · subst e2
    have : Szb q n := ⟨e6 q List.mem_cons_self⟩
    have : Szb s k := ⟨e4⟩
    rw [List.length_cons, Nat.mul_succ] at e5
    walk_at "w"
    exact ⟨s + q, k + n + 1, _, rfl, by rw [← e3, List.sum_cons]; grind, (inferInstance : Szb (s + q) (k + n + 1)).h, by omega, fun p hp => e6 p (List.mem_cons_of_mem _ hp)⟩
  · subst e2
    walk_at "w"
    rw [← e3]; simp [Rat.add_zero]
theorem s__law_sum {M : Sem} {k : Nat} [hM : HM L con fuel M k] {S : Store} {Q : W → Store → Prop} {w : W} {qs : List Rat} {n m : Nat} [h0 : SeqC w (qs.map rq)] [h : Szl qs n] [h' : LenC qs m] (hn : n * m ≤ 1500) (hm : m ≤ 1500) (hn2 : n ≤ 700) (hk : 3 ≤ k) : Wk M i__law_sum [w] S Q = Q (rq qs.sum) S := (f__law_sum hn hm hn2).sim hM hk Fres.h
def ds_A1_5 : List Lean.Name := `s__law_sum :: ds_A1_4
local macro_rules | `(tactic| walk_at "w") => walkS ds_A1_5 us_C1_2

theorem f__law_dot {w u : W} {ws us : List W} {qs rs : List Rat} {n m n' : Nat} [h0 : SeqC w ws] [h1 : RowC ws qs] [h : Szl qs n] [h' : LenC qs m] [k0 : SeqC u us] [k1 : RowC us rs] [j : Szl rs n'] (hn : (n + n') * m ≤ 1500) (hm : m ≤ 1500) (hn2 : n + n' ≤ 700) : Fn L con fuel 4 i__law_dot [w, u] (· = rq (dotQ qs rs)) := by
  refine fn_hm (q := q__law_dot) (b := b__law_dot) (env := [some (w), some (u), none, none]) (fr := false) rfl rfl rfl rfl rfl Fre.h fun M _ => ?_
  obtain ⟨xs, rfl, rfl⟩ := row_ex h1.h
  obtain ⟨ys, rfl, rfl⟩ := row_ex k1.h
  have : LenC xs m := ⟨by have := h'.h; rwa [List.length_map] at this⟩
  walk_at "w"
  rw [wg_map (fun p : Num × Num => rq (p.1.q * p.2.q)) (fun p hp => by
    have := szb_num (List.of_mem_zip hp).1
    have := szb_num (List.of_mem_zip hp).2
    walk_at "w") (by omega)]
  have e : ((xs.zip ys).map fun p : Num × Num => rq (p.1.q * p.2.q)) = ((xs.zip ys).map fun p : Num × Num => p.1.q * p.2.q).map rq := by rw [List.map_map]; rfl
  have d : dotQ (xs.map Num.q) (ys.map Num.q) = ((xs.zip ys).map fun p : Num × Num => p.1.q * p.2.q).sum := by
    unfold dotQ; rw [List.zip_map, List.map_map]; rfl
  have : Szl ((xs.zip ys).map fun p : Num × Num => p.1.q * p.2.q) (n + n') := ⟨fun x hx => by
    obtain ⟨p, hp, rfl⟩ := List.mem_map.mp hx
    exact rz_times (szb_num (List.of_mem_zip hp).1).h (szb_num (List.of_mem_zip hp).2).h⟩
  rw [e, d]
  walk_at "w"
theorem s__law_dot {M : Sem} {k : Nat} [hM : HM L con fuel M k] {S : Store} {Q : W → Store → Prop} {w u : W} {ws us : List W} {qs rs : List Rat} {n m n' : Nat} [h0 : SeqC w ws] [h1 : RowC ws qs] [h : Szl qs n] [h' : LenC qs m] [k0 : SeqC u us] [k1 : RowC us rs] [j : Szl rs n'] (hn : (n + n') * m ≤ 1500) (hm : m ≤ 1500) (hn2 : n + n' ≤ 700) (hk : 4 ≤ k) : Wk M i__law_dot [w, u] S Q = Q (rq (dotQ qs rs)) S := (f__law_dot hn hm hn2).sim hM hk Fres.h
def ds_A1_6 : List Lean.Name := `s__law_dot :: ds_A1_5
local macro_rules | `(tactic| walk_at "w") => walkS ds_A1_6 us_C1_2

theorem f__law_same {w : W} {n m : Nat} [h : DatC w n m] (hm : m ≤ 1000000) : Fn L con fuel (n+1) i__law_same [w, w] (· = .bl true) :=
  (same_at (D := D__law_same) (ps := q__law_same.ps) (N := q__law_same.N) rfl n 0 w (h.h.dat hm)).up (by omega)
theorem s__law_same {M : Sem} {k : Nat} [hM : HM L con fuel M k] {S : Store} {Q : W → Store → Prop} {w : W} {n m : Nat} [h : DatC w n m] (hm : m ≤ 1000000) (hk : (n+1) ≤ k) : Wk M i__law_same [w, w] S Q = Q (.bl true) S := (f__law_same hm).sim hM hk Fres.h
def ds_A1_7 : List Lean.Name := `s__law_same :: ds_A1_6
local macro_rules | `(tactic| walk_at "w") => walkS ds_A1_7 us_C1_2

theorem sameL {M : Rf.Sem} {k : Nat} [hM : HM L con fuel M k] {S : Store} {Q : W → Store → Prop} {i n m : Nat} {xs : List W} [h : DatC (.lst xs) n m] (hS : (S[i]?).join = some xs) (hm : m ≤ 1000000) (hk : n + 1 ≤ k) : Wk M i__law_same [.loc i, .lst xs] S Q = Q (.bl true) S :=
  have hx : W.frees xs = true := (dat_fre (w := .lst xs)).h
  (f__law_same (w := .lst xs) hm).lent hM hk rfl rfl (lent2 hS hx hx) rfl
theorem s_sameL0 {M : Rf.Sem} {k : Nat} [hM : HM L con fuel M k] {T : Store} {Q : W → Store → Prop} {n m : Nat} {xs : List W} [h : DatC (.lst xs) n m] (hm : m ≤ 1000000) (hk : n + 1 ≤ k) : Wk M i__law_same [.loc 0, .lst xs] (some xs :: T) Q = Q (.bl true) (some xs :: T) := sameL rfl hm hk
def ds_A1_8 : List Lean.Name := `s_sameL0 :: ds_A1_7
local macro_rules | `(tactic| walk_at "w") => walkS ds_A1_8 us_C1_2
theorem s_sameL1 {M : Rf.Sem} {k : Nat} [hM : HM L con fuel M k] {s0 : Option (List W)} {T : Store} {Q : W → Store → Prop} {n m : Nat} {xs : List W} [h : DatC (.lst xs) n m] (hm : m ≤ 1000000) (hk : n + 1 ≤ k) : Wk M i__law_same [.loc 1, .lst xs] (s0 :: some xs :: T) Q = Q (.bl true) (s0 :: some xs :: T) := sameL rfl hm hk
def ds_A1_9 : List Lean.Name := `s_sameL1 :: ds_A1_8
local macro_rules | `(tactic| walk_at "w") => walkS ds_A1_9 us_C1_2
theorem s_sameL2 {M : Rf.Sem} {k : Nat} [hM : HM L con fuel M k] {s0 s1 : Option (List W)} {T : Store} {Q : W → Store → Prop} {n m : Nat} {xs : List W} [h : DatC (.lst xs) n m] (hm : m ≤ 1000000) (hk : n + 1 ≤ k) : Wk M i__law_same [.loc 2, .lst xs] (s0 :: s1 :: some xs :: T) Q = Q (.bl true) (s0 :: s1 :: some xs :: T) := sameL rfl hm hk
def ds_A1_10 : List Lean.Name := `s_sameL2 :: ds_A1_9
local macro_rules | `(tactic| walk_at "w") => walkS ds_A1_10 us_C1_2
theorem s_sameL3 {M : Rf.Sem} {k : Nat} [hM : HM L con fuel M k] {s0 s1 s2 : Option (List W)} {T : Store} {Q : W → Store → Prop} {n m : Nat} {xs : List W} [h : DatC (.lst xs) n m] (hm : m ≤ 1000000) (hk : n + 1 ≤ k) : Wk M i__law_same [.loc 3, .lst xs] (s0 :: s1 :: s2 :: some xs :: T) Q = Q (.bl true) (s0 :: s1 :: s2 :: some xs :: T) := sameL rfl hm hk
def ds_A1_11 : List Lean.Name := `s_sameL3 :: ds_A1_10
local macro_rules | `(tactic| walk_at "w") => walkS ds_A1_11 us_C1_2
theorem hDraw : IsDraw L con fuel i__law_draw := fun k n S many hp h1 h2 => draw_at (D := D__law_draw) (ps := q__law_draw.ps) (N := q__law_draw.N) (a := 40127) (b := 6329) (m := 2147483587) (c := 2147483549) (d := 23) rfl hp h1 h2 (by decide) (by decide) (by decide) (by decide)
theorem wc_draw {M : Rf.Sem} {k : Nat} [hM : HM L con fuel M k] {T : Store} {Q : W → Store → Prop} {a b many : Int} (hk : 1 ≤ k) (hp : PotOk a b) (h0 : 0 < many) (h1 : many < 2 ^ 64) (q : ∀ x a b, 0 ≤ x → x < many → PotOk a b → Q (.int x) (some [.int a, .int b] :: T)) : Wc M i__law_draw [.loc 0, .int many] (some [.int a, .int b] :: T) Q :=
  At.wc (hDraw 0 0 _ many (pot_ok hp) h0 h1) hM hk fun w S ⟨x, e, x0, x1, hp', fr⟩ => by
    obtain ⟨a', b', hp2, e2⟩ := pot_fr fr hp'
    rw [e, e2]
    exact q x a' b' x0 x1 hp2
theorem f_pot {ns : List Int} {i : Nat} (hi : (i : Int) < 2 ^ 60) : Fn L con fuel 1 i__law_pot [.ro (ns.map .int), .int i] fun w => ∃ p0 p1 : Int, w = .lst [.int p0, .int p1] ∧ 0 ≤ p0 ∧ 0 ≤ p1 ∧ p1 < 2 ^ 40 :=
  pot_at (D := D__law_pot) (ps := q__law_pot.ps) (N := q__law_pot.N) (a := 839) (b := 431) (m := 1000003) (c := 2147483579) (d := 40127) (e := 6329) (g := 2147483563) rfl (by decide) (by decide) (by decide) (by decide) (by decide) (by decide) hi
theorem wk_pot {M : Rf.Sem} {k : Nat} [hM : HM L con fuel M k] {ns : List Int} {i : Nat} {Q : W → Store → Prop} (hk : 1 ≤ k) (hi : (i : Int) < 2 ^ 60) (q : ∀ a b, PotOk a b → Q (.lst [.int a, .int b]) []) : Wk M i__law_pot [.ro (ns.map .int), .int i] [] Q :=
  (f_pot hi).wkP hM hk Fres.h fun w _ ⟨a, b, e, h1, h2, h3⟩ => by rw [e]; exact q a b ⟨h1, h2, h3⟩

end K12

namespace K12
open Rf PySem
local macro_rules | `(tactic| walk_at "d") => `(tactic| first | omega | assumption | exact den_ne _ | exact Int.mul_ne_zero (den_ne _) (den_ne _) | exact lcm_ne | exact Int.mul_ne_zero lcm_ne lcm_ne | trivial)
local macro_rules | `(tactic| walk_at "w") => walkS ds_A1_11 us_C1_2
theorem hNumber : IsNumber L con fuel 3 i__law_number := number_at (D := D__law_number) (ps := q__law_number.ps) (N := q__law_number.N) (D' := D__law_great) (ps' := q__law_great.ps) (N' := q__law_great.N) rfl hDraw hLMade rfl
theorem wc_number {M : Rf.Sem} {k : Nat} [hM : HM L con fuel M k] {T : Store} {Q : W → Store → Prop} {a b : Int} (hk : 3 ≤ k) (hp : PotOk a b) (q : ∀ (x : Num) a b, Rz 100 x.q → PotOk a b → Q x.w (some [.int a, .int b] :: T)) : Wc M i__law_number [.loc 0] (some [.int a, .int b] :: T) Q :=
  At.wc (hNumber 0 0 _ (pot_ok hp)) hM hk fun w S ⟨⟨p, hn, hr⟩, hp', fr⟩ => by
    obtain ⟨a', b', hp2, e2⟩ := pot_fr fr hp'
    obtain ⟨x, rfl, rfl⟩ := num_ex hn
    rw [e2]
    exact q x a' b' hr hp2

end K12

namespace K12
open Rf PySem
local macro_rules | `(tactic| walk_at "d") => `(tactic| first | omega | assumption | exact den_ne _ | exact Int.mul_ne_zero (den_ne _) (den_ne _) | exact lcm_ne | exact Int.mul_ne_zero lcm_ne lcm_ne | trivial)
local macro_rules | `(tactic| walk_at "w") => walkS ds_A1_11 us_C1_2
theorem f__law_least {q : Rat} {qs : List Rat} {side : Int} {n m : Nat} [hq : Szb q n] [h : Szl qs m] (hn : n ≤ 100) (hm : m ≤ 100) (hs : side = -1 ∨ side = 1) : Fn L con fuel 2 i__law_least [.lst (rq q :: qs.map rq), .int side] (· = rq (firstQ side q qs)) :=
  lawLeast_at (D := D__law_least) (ps := q__law_least.ps) (N := q__law_least.N) (D1 := D__law_is_less) (p1 := q__law_is_less.ps) (n1 := q__law_is_less.N) (ls := i__law_is_less) rfl rfl hs (hq.h.up hn) fun q hq => (h.h q hq).up hm
theorem s__law_least {M : Sem} {k : Nat} [hM : HM L con fuel M k] {S : Store} {Q : W → Store → Prop} {q : Rat} {qs : List Rat} {side : Int} {n m : Nat} [hq : Szb q n] [h : Szl qs m] (hn : n ≤ 100) (hm : m ≤ 100) (hs : side = -1 ∨ side = 1) (hk : 2 ≤ k) : Wk M i__law_least [.lst (rq q :: qs.map rq), .int side] S Q = Q (rq (firstQ side q qs)) S := (f__law_least hn hm hs).sim hM hk Fres.h
def ds_K12m_0 : List Lean.Name := `s__law_least :: ds_A1_11
local macro_rules | `(tactic| walk_at "w") => walkS ds_K12m_0 us_C1_2

theorem f__law_lists_right {w : W} {xs ys : List Num} {f : Num} [h0 : SeqC w (xs.map Num.w)] [h : Szl (xs.map Num.q) 100] [hl : LenC xs 6] [h' : Szl (ys.map Num.q) 100] (hl' : ys.length = xs.length) [hf : Szb f.q 100] : Fn L con fuel 13 i__law_lists_right [w, .lst (ys.map Num.w), f.w] (· = .bl true) := by
  refine fn_hm (q := q__law_lists_right) (b := b__law_lists_right) (env := [some (w), some (.lst (ys.map Num.w)), some (f.w), none, none, none, none, none]) (fr := false) rfl rfl rfl rfl rfl Fre.h fun M _ => ?_
  have : LenC ys 6 := ⟨by have := hl.h; omega⟩
  have e1 : (ys.map Num.q).length = (xs.map Num.q).length := by simp [hl']
  walk_at "w"
  rw [wg_map (fun p : Num × Num => rq (p.1.q + p.2.q)) (fun p hp => by
    have := szb_num (List.of_mem_zip hp).1
    have := szb_num (List.of_mem_zip hp).2
    walk_at "w") (by omega)]
  have e2 : ((xs.zip ys).map fun p : Num × Num => rq (p.1.q + p.2.q)) = (List.zipWith (· + ·) (xs.map Num.q) (ys.map Num.q)).map rq := by
    rw [List.zipWith_map_left, List.zipWith_map_right, List.map_zipWith, zipW_zip]
  rw [e2]
  walk_at "w"
  rw [wg_map (fun x : Num => rq (x.q * f.q)) (fun x hx => by
    have := szb_num hx
    walk_at "w") (by omega)]
  have e3 : (xs.map fun x : Num => rq (x.q * f.q)) = ((xs.map Num.q).map (· * f.q)).map rq := by rw [List.map_map, List.map_map]; rfl
  rw [e3]
  walk_at "w"
theorem s__law_lists_right {M : Sem} {k : Nat} [hM : HM L con fuel M k] {S : Store} {Q : W → Store → Prop} {w : W} {xs ys : List Num} {f : Num} [h0 : SeqC w (xs.map Num.w)] [h : Szl (xs.map Num.q) 100] [hl : LenC xs 6] [h' : Szl (ys.map Num.q) 100] (hl' : ys.length = xs.length) [hf : Szb f.q 100] (hk : 13 ≤ k) : Wk M i__law_lists_right [w, .lst (ys.map Num.w), f.w] S Q = Q (.bl true) S := (f__law_lists_right hl').sim hM hk Fres.h
def ds_K12m_1 : List Lean.Name := `s__law_lists_right :: ds_K12m_0
local macro_rules | `(tactic| walk_at "w") => walkS ds_K12m_1 us_C1_2

theorem f_law {ns : List Int} : At L con fuel 30 i_law [.ro (ns.map .int)] ([]) (fun w _ => w = .bl true) := by
  refine at_hm (q := q_law) (b := b_law) (env := [some (.ro (ns.map .int)), none, none, none, none, none, none, none, none, none, none, none]) (fr := false) rfl rfl rfl rfl rfl fun M _ => ?_
  walk_at "w"
  refine wk_pot (i := 0) (by omega) (by decide) fun a b hp => ?_
  walk_at "w"
  refine wr_forL (I := fun xs env S => (∃ t m r o f s p d a1 o1, env = [some (.ro (ns.map .int)), some (.loc 0), t, m, r, o, f, s, p, d, a1, o1]) ∧ PotS [] S) (fun t ts env S ⟨⟨t0, m0, r0, o0, f0, s0, p0, d0, a0, b0, e⟩, a, b, hp, e2⟩ => ?_) (fun env S ⟨⟨t0, m0, r0, o0, f0, s0, p0, d0, a0, b0, e⟩, a, b, hp, e2⟩ => ?_) _ _ _ ⟨⟨_, _, _, _, _, _, _, _, _, _, rfl⟩, a, b, hp, rfl⟩
  · subst e e2
    walk_at "w"
    refine wc_draw (by omega) hp (by omega) (by omega) fun m a b m0 m1 hp => ?_
    walk_at "w"
    have : LenC (List.range m.toNat) 6 := ⟨by rw [List.length_range]; omega⟩
    refine wg_st (PotS []) (fun _ y => ∃ x : Num, y = x.w ∧ Rz 100 x.q) (fun t S ⟨a, b, hp, e⟩ => ?_) _ (by omega) ⟨a, b, hp, rfl⟩ fun xs S' xl xp ⟨a, b, hp, e⟩ => ?_
    · subst e
      walk_at "w"
      exact wc_number (by omega) hp fun x a b hx hp => ⟨⟨x, rfl, hx⟩, a, b, hp, rfl⟩
    subst e
    obtain ⟨xs, rfl, hx⟩ := nums_of fun y hy => let ⟨_, _, h⟩ := xp y hy; h
    walk_at "w"
    refine wg_st (PotS []) (fun _ y => ∃ x : Num, y = x.w ∧ Rz 100 x.q) (fun t S ⟨a, b, hp, e⟩ => ?_) _ (by omega) ⟨a, b, hp, rfl⟩ fun ys S' yl yp ⟨a, b, hp, e⟩ => ?_
    · subst e
      walk_at "w"
      exact wc_number (by omega) hp fun x a b hx hp => ⟨⟨x, rfl, hx⟩, a, b, hp, rfl⟩
    subst e
    obtain ⟨ys, rfl, hy⟩ := nums_of fun y hy => let ⟨_, _, h⟩ := yp y hy; h
    walk_at "w"
    refine wc_number (by omega) hp fun f a b hf hp => ?_
    walk_at "w"
    rw [List.length_map, List.length_range] at xl yl
    have : Szl (xs.map Num.q) 100 := ⟨hx⟩
    have : Szl (ys.map Num.q) 100 := ⟨hy⟩
    have : Szb f.q 100 := ⟨hf⟩
    have : LenC xs 6 := ⟨by omega⟩
    have : LenC ys 6 := ⟨by omega⟩
    have hlen : (ys.map Num.q).length = (xs.map Num.q).length := by simp [xl, yl]
    have hlen2 : ys.length = xs.length := by omega
    have key : ∀ (w : W) (D : Dn), SeqC w (xs.map Num.w) → (∀ env S, (∃ t m r o f s p d a1 o1, env = [some (.ro (ns.map .int)), some (.loc 0), t, m, r, o, f, s, p, d, a1, o1]) ∧ PotS [] S → D.nx env S) → Wr (evSs M t_law_11 [some (.ro (ns.map .int)), some (.loc 0), some (.int (t : Int)), some (.int m), some w, some (.lst (ys.map Num.w)), some f.w, s0, p0, d0, a0, b0] [some [.int a, .int b]]) D := by
      intro w D hw hn
      walk_at "w"
      rw [wg_map (fun x : Num => rq x.q) (fun x hx => by walk_at "w") (by omega)]
      rw [show (xs.map fun x : Num => rq x.q) = (xs.map Num.q).map rq from by rw [List.map_map]; rfl]
      walk_at "w"
      rw [dotQ_comm (ys.map Num.q) (xs.map Num.q)]
      walk_at "w"
      have tail : ∀ (d0 : Option W) (D : Dn), (∀ env S, (∃ t m r o f s p d a1 o1, env = [some (.ro (ns.map .int)), some (.loc 0), t, m, r, o, f, s, p, d, a1, o1]) ∧ PotS [] S → D.nx env S) → Wr (evSs M t_law_7 [some (.ro (ns.map .int)), some (.loc 0), some (.int (t : Int)), some (.int m), some w, some (.lst (ys.map Num.w)), some f.w, some (W.str (W.lst [w, W.lst (List.map Num.w ys)]).py.shown), some (W.lst (List.map rq (List.map Num.q xs))), d0, a0, b0] [some [.int a, .int b]]) D := by
        intro d0 D hn
        walk_at "w"
        exact hn _ _ ⟨⟨_, _, _, _, _, _, _, _, _, _, rfl⟩, a, b, hp, rfl⟩
      generalize ht : t_law_7 = tl at tail
      refine brd (fun h => ?_) fun h => ?_
      · cases xs with
        | nil => simp only [List.length_nil] at xl; omega
        | cons x xs =>
          have : Szb x.q 100 := ⟨hx _ (by simp)⟩
          have : Szl (xs.map Num.q) 100 := ⟨fun q hq => hx q (List.mem_cons_of_mem _ hq)⟩
          have : LenC xs 5 := ⟨by simp only [List.length_cons] at xl; omega⟩
          simp only [List.map_cons] at hw ⊢
          walk_at "w"
          exact tail _ _ hn
      · walk_at "w"
        exact tail _ _ hn
    generalize ht : t_law_11 = tl at key
    refine brd (fun h => ?_) fun h => ?_
    · walk_at "w"
      exact key _ _ inferInstance fun _ _ h => h
    · walk_at "w"
      exact key _ _ inferInstance fun _ _ h => h
  · subst e e2
    walk_at "w"


end K12

namespace K12
open PySem PySem.Spec L2 Rf
def kk : Nat := 60
theorem pure_ok (ns : List Int) (h : ns.length ≤ 63) : ∃ S, Rf.run (tblOf L) (conOf cs) fuel kk lawIx [.ro (ns.map .int)] [] = some (.bl true, S) := by
  obtain ⟨w, S, e, rfl⟩ := (f_law (ns := ns)  kk (by decide)).ex
  exact ⟨S, e⟩
theorem facts {P : Program} {w : World} {K : PySem.W.Frag} {h : Heap} {mg : Str → Option Value} (X : K.In h) (Gn : h.Ns mainGlobals mg) (c : He.SaysX (faOf L) (L.map (·.D)) [] [] (exOf G.mods cs) w h K) : Facts G L (conOf cs) P w K mg :=
  facts_of X Gn c ones rfl rfl rfl ats poss kwss
end K12
open PySem PySem.W PySem.Calls PyProof.Rows
theorem PySem.Challenge.cw_standsmore_k12_whole_rows_holds : PySem.Challenge.rw_standsmore_k12_whole_rows.Holds := by
  w_on; o_law
  refine HandSHeadRun.head_imp (r := OpenLaw.row PySem.Challenge.rw_standsmore_k12_whole_rows) (q := view (OpenLaw.row PySem.Challenge.rw_standsmore_k12_whole_rows).prog K12.vw) (H := K12.hk) (ob := K12.ob) (M := 4000) (loose := K12.loose) (d := HandSHeadRun.topDef (OpenLaw.row PySem.Challenge.rw_standsmore_k12_whole_rows).prog K12.lawAt) (kwd := []) K12.ob_eq
    K12.run (by kernel_rfl) (by kernel_rfl) (by rfl) (by first | assumption | decide +kernel) (by decide +kernel) (by decide +kernel) ⟨rfl, rfl, rfl, rfl, rfl, by decide +kernel⟩ ?hw ?hc
  case hw => w_witness2
  case hc =>
    refine Rf.walkG (l := PySem.Challenge.rw_standsmore_k12_whole_rows) (n := 63) (k := K12.kk) (x := "script") rfl (by decide) (by kernel_rfl) ⟨rfl, by decide, by decide⟩ ?F
    intro w mg fa h Y G hmg0
    obtain ⟨K, KX, c⟩ := Y
    have hmg : mg (K12.q_law.D.name) = some (.ref fa) := by
      have e : (HandSHeadRun.topDef (OpenLaw.row PySem.Challenge.rw_standsmore_k12_whole_rows).prog K12.lawAt).name = K12.q_law.D.name := by kernel_rfl
      rw [← e]
      exact hmg0
    have F := K12.facts (P := (PySem.Challenge.rw_standsmore_k12_whole_rows).prog) (w := w) KX G c
    obtain ⟨fd, hb, hF⟩ := Rf.law_facts KX F K12.fuel K12.kk K12.lawIx (q := K12.q_law) rfl rfl rfl K12.pos38 hmg
    exact ⟨K, fd, _, KX, hb, fun H a ns hl hO hS => Rf.sp_law (K12.pure_ok ns hl) hS hO, fun base => hF base⟩
