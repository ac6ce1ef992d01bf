import PyProof.Rows.All
import Wide.All
import OpenK.AllK
import Wide.FinOn
import HandS.ForMost
import HandS.ForExc
import HandS.Zip
import KE.GoesEnum
import HandS.ExcInit
import HandS.ExcField
import HandS.ExcIs
import HandS.IsInst
import HandS.Conv
import KE.KExcIs
import HandS.Wide
import HandS.TupAny
import HandS.TupMul
import HandS.Text
import KE.DataEq
import PyProof.ListMulRoad
import PyProof.FactsAll.tuple_2
import PyProof.StrOps2
import HandS.SortOrd
import PyProof.CallFns
import PyProof.ReprRoads
import HandS.RaiseMore
import HandS.Ends
import HandS.Walk
import HandS.WordsExc
import HandS.Dict
import HandS.StrMore
import HandS.FStr
import KE.KUnpackStar
import PySem.Challenge.RW_ladlerow_k88_cellar_texts
set_option Elab.async false
set_option linter.all false
set_option maxRecDepth 100000
set_option autoImplicit false
/-! A layer of plain data over the hand layer: values that never change are trees (D), what changes stands in a store by numbers; a piece of Python is a plain function of slots and store. -/
namespace DL
open PySem PySem.Spec L2

inductive D where
  | non | bl (b : Bool) | int (i : Int) | str (s : Str) | tup (xs : List D) | lst (xs : List D) | ref (i : Nat) | emp | scr (ns : List Int)

/-- what stands in the store -/
inductive SO where
  | lst (xs : List D)
  | ins (C : Str) (fs : List (Str × D))
  | dic (kvs : List (Str × D))

structure Ex where
  cls : Str
  fs : List (Str × D)

abbrev Env := List (Option D)
abbrev Sto := List SO

mutual
def Rep (K : PySem.W.Frag) (F : Hp) (m : List Addr) : D → V → Prop
  | .non, v => v = .non
  | .bl b, v => v = .bl b
  | .int i, v => v = .int i
  | .str s, v => v = .str s
  | .tup xs, v => ∃ a vs, v = .ref a ∧ F a = some (.tup vs) ∧ Reps K F m xs vs
  | .lst xs, v => ∃ a vs, v = .ref a ∧ F a = some (.lst vs) ∧ Reps K F m xs vs
  | .ref i, v => ∃ a, v = .ref a ∧ m[i]? = some a
  | .emp, v => ∃ a, v = .ref a ∧ F a = some (.dK [])
  | .scr ns, v => ∃ a, v = .ref a ∧ SqL K F a (ns.map V.int)
def Reps (K : PySem.W.Frag) (F : Hp) (m : List Addr) : List D → List V → Prop
  | [], vs => vs = []
  | d :: ds, vs => ∃ v r, vs = v :: r ∧ Rep K F m d v ∧ Reps K F m ds r
end

/-- fields, by name -/
def RepFs (K : PySem.W.Frag) (F : Hp) (m : List Addr) (fs : List (Str × D)) (vs : List (Str × V)) : Prop :=
  fs.map (·.1) = vs.map (·.1) ∧ Reps K F m (fs.map (·.2)) (vs.map (·.2))

def RepO (K : PySem.W.Frag) (L : Str → Addr) (F : Hp) (m : List Addr) : SO → HO → Prop
  | .lst ds, h => ∃ vs, h = .lst vs ∧ Reps K F m ds vs
  | .ins C fs, h => ∃ dx vs, h = .ins (L C) dx vs ∧ RepFs K F m fs vs
  | .dic kvs, h => ∃ vs, h = .dK vs ∧ kvs.map (fun p => (Sum.inr p.1 : Key)) = vs.map (·.1) ∧ Reps K F m (kvs.map (·.2)) (vs.map (·.2))

structure Wd (K : PySem.W.Frag) (L : Str → Addr) (F : Hp) (m : List Addr) (st : Sto) (H : Hp) : Prop where
  sub : ∀ a o, F a = some o → H a = some o
  len : m.length = st.length
  nd : m.Nodup
  off : ∀ a ∈ m, F a = none
  at_ : ∀ (i : Nat) (a : Addr), m[i]? = some a → ∃ o h, st[i]? = some o ∧ H a = some h ∧ RepO K L F m o h

/-- from one stand to a later one: what is frozen stays, the store's places stay, all else that is tracked stays -/
structure Ext (F : Hp) (m : List Addr) (H F' : Hp) (m' : List Addr) (H' : Hp) : Prop where
  ef : ∀ a o, F a = some o → F' a = some o
  em : ∃ r, m' = m ++ r
  ek : ∀ a o, H a = some o → a ∉ m → H' a = some o
  en : ∀ a, H a ≠ none → a ∉ m → a ∉ m'
  eg : ∀ a, H a ≠ none → a ∉ m → F a = none → F' a = none

structure XP where
  i : Nat
  a : Addr
  x : Ex
  d : Option Addr

def RepX (K : PySem.W.Frag) (F : Hp) (m : List Addr) (e : Ex) (d : Option Addr) : Prop :=
  (e.fs = [] ∧ d = none) ∨ ∃ dx vs, d = some dx ∧ F dx = some (.xd vs) ∧ RepFs K F m e.fs vs

structure RepSt (K : PySem.W.Frag) (P : Option XP) (F : Hp) (m : List Addr) (r : Env) (s : St) : Prop where
  len : r.length = s.length
  at_ : ∀ (i : Nat) (d : D), r[i]? = some (some d) → ∃ v, s[i]? = some (some v) ∧ Rep K F m d v
  px : ∀ p, P = some p → s[p.i]? = some (some (.ref p.a)) ∧ r[p.i]? = some none ∧ RepX K F m p.x p.d

section
variable {K : PySem.W.Frag} {L : Str → Addr} {F F' F1 : Hp} {m m' m1 : List Addr} {st st' : Sto} {H H' H1 : Hp} {P : Option XP}

theorem pre_get {m r : List Addr} {i : Nat} {a : Addr} (h : m[i]? = some a) : (m ++ r)[i]? = some a := by
  rw [List.getElem?_append_left (List.getElem?_eq_some_iff.mp h).1]; exact h

mutual
theorem Rep.mono (hf : ∀ a o, F a = some o → F' a = some o) (hm : ∃ r, m' = m ++ r) : ∀ (d : D) (v : V), Rep K F m d v → Rep K F' m' d v
  | .non, _, h => by simpa only [Rep] using h
  | .bl _, _, h => by simpa only [Rep] using h
  | .int _, _, h => by simpa only [Rep] using h
  | .str _, _, h => by simpa only [Rep] using h
  | .tup xs, v, h => by
    simp only [Rep] at h ⊢
    obtain ⟨a, vs, e, q, r⟩ := h
    exact ⟨a, vs, e, hf _ _ q, Reps.mono hf hm xs vs r⟩
  | .lst xs, v, h => by
    simp only [Rep] at h ⊢
    obtain ⟨a, vs, e, q, r⟩ := h
    exact ⟨a, vs, e, hf _ _ q, Reps.mono hf hm xs vs r⟩
  | .ref i, v, h => by
    simp only [Rep] at h ⊢
    obtain ⟨a, e, q⟩ := h
    obtain ⟨r, rfl⟩ := hm
    exact ⟨a, e, pre_get q⟩
  | .emp, v, h => by
    simp only [Rep] at h ⊢
    obtain ⟨a, e, q⟩ := h
    exact ⟨a, e, hf _ _ q⟩
  | .scr ns, v, h => by
    simp only [Rep] at h ⊢
    obtain ⟨a, e, q⟩ := h
    exact ⟨a, e, Same.seq hf q⟩
theorem Reps.mono (hf : ∀ a o, F a = some o → F' a = some o) (hm : ∃ r, m' = m ++ r) : ∀ (ds : List D) (vs : List V), Reps K F m ds vs → Reps K F' m' ds vs
  | [], _, h => by simpa only [Reps] using h
  | d :: ds, vs, h => by
    simp only [Reps] at h ⊢
    obtain ⟨v, r, e, p, q⟩ := h
    exact ⟨v, r, e, Rep.mono hf hm d v p, Reps.mono hf hm ds r q⟩
end

theorem RepFs.mono (hf : ∀ a o, F a = some o → F' a = some o) (hm : ∃ r, m' = m ++ r) {fs : List (Str × D)} {vs : List (Str × V)} (h : RepFs K F m fs vs) : RepFs K F' m' fs vs :=
  ⟨h.1, Reps.mono hf hm _ _ h.2⟩
theorem RepO.mono (hf : ∀ a o, F a = some o → F' a = some o) (hm : ∃ r, m' = m ++ r) : ∀ {o : SO} {h : HO}, RepO K L F m o h → RepO K L F' m' o h
  | .lst _, _, ⟨vs, e, r⟩ => ⟨vs, e, Reps.mono hf hm _ _ r⟩
  | .ins _ _, _, ⟨dx, vs, e, r⟩ => ⟨dx, vs, e, r.mono hf hm⟩
  | .dic _, _, ⟨vs, e, q, r⟩ => ⟨vs, e, q, Reps.mono hf hm _ _ r⟩
theorem RepX.mono (hf : ∀ a o, F a = some o → F' a = some o) (hm : ∃ r, m' = m ++ r) {e : Ex} {d : Option Addr} (h : RepX K F m e d) : RepX K F' m' e d := by
  rcases h with h | ⟨dx, vs, e, q, r⟩
  · exact .inl h
  · exact .inr ⟨dx, vs, e, hf _ _ q, r.mono hf hm⟩
theorem RepSt.mono (hf : ∀ a o, F a = some o → F' a = some o) (hm : ∃ r, m' = m ++ r) {r : Env} {s : St} (h : RepSt K P F m r s) : RepSt K P F' m' r s :=
  ⟨h.len, fun i d e => let ⟨v, q, p⟩ := h.at_ i d e; ⟨v, q, Rep.mono hf hm d v p⟩, fun p e => let ⟨a, b, c⟩ := h.px p e; ⟨a, b, c.mono hf hm⟩⟩

theorem Ext.refl : Ext F m H F m H := ⟨fun _ _ h => h, ⟨[], by simp⟩, fun _ _ h _ => h, fun _ _ h => h, fun _ _ _ h => h⟩
theorem Ext.trans {F2 H2 : Hp} {m2 : List Addr} (a : Ext F m H F1 m1 H1) (b : Ext F1 m1 H1 F2 m2 H2) : Ext F m H F2 m2 H2 where
  ef := fun x o h => b.ef x o (a.ef x o h)
  em := by
    obtain ⟨r, rfl⟩ := a.em
    obtain ⟨r', rfl⟩ := b.em
    exact ⟨r ++ r', by rw [List.append_assoc]⟩
  ek := fun x o h hn => b.ek x o (a.ek x o h hn) (a.en x (by rw [h]; simp) hn)
  en := fun x h hn => by
    obtain ⟨o, e⟩ := Option.ne_none_iff_exists'.mp h
    exact b.en x (by rw [a.ek x o e hn]; simp) (a.en x h hn)
  eg := fun x h hn e => by
    obtain ⟨o, e1⟩ := Option.ne_none_iff_exists'.mp h
    exact b.eg x (by rw [a.ek x o e1 hn]; simp) (a.en x h hn) (a.eg x h hn e)

theorem RepSt.ext {r : Env} {s : St} (h : RepSt K P F m r s) (x : Ext F m H F' m' H') : RepSt K P F' m' r s := h.mono x.ef x.em
theorem Rep.ext {d : D} {v : V} (h : Rep K F m d v) (x : Ext F m H F' m' H') : Rep K F' m' d v := Rep.mono x.ef x.em d v h
theorem Reps.ext {d : List D} {v : List V} (h : Reps K F m d v) (x : Ext F m H F' m' H') : Reps K F' m' d v := Reps.mono x.ef x.em d v h

/-- a tracked place that is neither frozen nor the store's may change -/
theorem Wd.other {a : Addr} {o : HO} (w : Wd K L F m st H) (hF : F a = none) (hm : a ∉ m) : Wd K L F m st (upd H a o) := by
  refine ⟨fun b u h => ?_, w.len, w.nd, w.off, fun i b h => ?_⟩
  · rw [upd_ne (by rintro rfl; rw [hF] at h; cases h)]; exact w.sub b u h
  · obtain ⟨o', h', e1, e2, e3⟩ := w.at_ i b h
    exact ⟨o', h', e1, by rw [upd_ne (by rintro rfl; exact hm (List.mem_of_getElem? h))]; exact e2, e3⟩
theorem Wd.memH (w : Wd K L F m st H) {a : Addr} (h : a ∈ m) : H a ≠ none := by
  obtain ⟨i, hi⟩ := List.mem_iff_getElem?.mp h
  obtain ⟨o, u, _, e, _⟩ := w.at_ i a hi
  rw [e]; simp
theorem Wd.new_ne (w : Wd K L F m st H) {p : Addr} (hp : H p = none) : p ∉ m := fun h => w.memH h hp
theorem Wd.new_F (w : Wd K L F m st H) {p : Addr} (hp : H p = none) : F p = none := by
  cases q : F p with
  | none => rfl
  | some o => rw [w.sub p o q] at hp; cases hp
theorem upd_sub {p : Addr} {o : HO} (hF : F p = none) : ∀ a u, F a = some u → upd F p o a = some u := fun a u h => by
  rw [upd_ne (by rintro rfl; rw [hF] at h; cases h)]; exact h
/-- a new thing that never changes -/
theorem Wd.froze {p : Addr} {o : HO} (w : Wd K L F m st H) (hp : H p = none) : Wd K L (upd F p o) m st (upd H p o) := by
  have hF := w.new_F hp
  have hm := w.new_ne hp
  refine ⟨fun a u h => ?_, w.len, w.nd, fun a h => ?_, fun i b h => ?_⟩
  · by_cases e : a = p
    · subst e; rw [upd_same] at h ⊢; exact h
    · rw [upd_ne e] at h ⊢; exact w.sub a u h
  · rw [upd_ne (by rintro rfl; exact hm h)]; exact w.off a h
  · obtain ⟨o', h', e1, e2, e3⟩ := w.at_ i b h
    exact ⟨o', h', e1, by rw [upd_ne (by rintro rfl; exact hm (List.mem_of_getElem? h))]; exact e2, e3.mono (upd_sub hF) ⟨[], by simp⟩⟩
theorem Ext.froze {p : Addr} {o : HO} (hF : F p = none) (hp : H p = none) : Ext F m H (upd F p o) m (upd H p o) where
  ef := upd_sub hF
  em := ⟨[], by simp⟩
  ek := fun a u h _ => by rw [upd_ne (by rintro rfl; rw [hp] at h; cases h)]; exact h
  en := fun _ _ h => h
  eg := fun a h _ e => by rw [upd_ne (by rintro rfl; exact h hp)]; exact e
/-- a place that was made meanwhile and is to stay as it is, is frozen -/
theorem Wd.freeze {p : Addr} {o : HO} (w : Wd K L F m st H) (hp : H p = some o) (hm : p ∉ m) (hF : F p = none) : Wd K L (upd F p o) m st H := by
  refine ⟨fun a u h => ?_, w.len, w.nd, fun a h => ?_, fun i b h => ?_⟩
  · by_cases e : a = p
    · subst e; rw [upd_same] at h; rw [hp]; exact h
    · rw [upd_ne e] at h; exact w.sub a u h
  · rw [upd_ne (by rintro rfl; exact hm h)]; exact w.off a h
  · obtain ⟨o', h', e1, e2, e3⟩ := w.at_ i b h
    exact ⟨o', h', e1, e2, e3.mono (upd_sub hF) ⟨[], by simp⟩⟩
/-- a new object of the store -/
theorem Wd.push {p : Addr} {o : SO} {h : HO} (w : Wd K L F m st H) (hp : H p = none) (r : RepO K L F (m ++ [p]) o h) : Wd K L F (m ++ [p]) (st ++ [o]) (upd H p h) := by
  have hF := w.new_F hp
  have hm := w.new_ne hp
  refine ⟨fun a u q => ?_, by simp [w.len], ?_, fun a q => ?_, fun i b q => ?_⟩
  · rw [upd_ne (by rintro rfl; rw [hF] at q; cases q)]; exact w.sub a u q
  · rw [List.nodup_append]
    refine ⟨w.nd, by simp, fun a ha b hb => ?_⟩
    rintro rfl
    exact hm (by rw [List.mem_singleton.mp hb] at ha; exact ha)
  · rcases List.mem_append.mp q with q | q
    · exact w.off a q
    · rw [List.mem_singleton.mp q]; exact hF
  · by_cases hi : i < m.length
    · rw [List.getElem?_append_left hi] at q
      obtain ⟨o', h', e1, e2, e3⟩ := w.at_ i b q
      exact ⟨o', h', by rw [List.getElem?_append_left (by rw [← w.len]; exact hi)]; exact e1, by rw [upd_ne (by rintro rfl; exact hm (List.mem_of_getElem? q))]; exact e2, e3.mono (fun _ _ z => z) ⟨[p], rfl⟩⟩
    · rw [List.getElem?_append_right (by omega)] at q
      have e0 : i - m.length = 0 := by
        have := (List.getElem?_eq_some_iff.mp q).1
        simp at this; omega
      rw [e0] at q
      have eb : p = b := by simpa using q
      subst eb
      exact ⟨o, h, by rw [List.getElem?_append_right (by rw [← w.len]; omega), ← w.len, e0]; rfl, upd_same, r⟩
theorem Ext.push {p : Addr} {h : HO} (hp : H p = none) : Ext F m H F (m ++ [p]) (upd H p h) where
  ef := fun _ _ z => z
  em := ⟨[p], rfl⟩
  ek := fun a u q _ => by rw [upd_ne (by rintro rfl; rw [hp] at q; cases q)]; exact q
  en := fun a q hn z => by
    rcases List.mem_append.mp z with z | z
    · exact hn z
    · rw [List.mem_singleton.mp z] at q; exact q hp
  eg := fun _ _ _ e => e
/-- an object of the store is written -/
theorem Wd.put {i : Nat} {a : Addr} {o : SO} {h : HO} (w : Wd K L F m st H) (hi : m[i]? = some a) (r : RepO K L F m o h) : Wd K L F m (st.set i o) (upd H a h) := by
  have hF := w.off a (List.mem_of_getElem? hi)
  refine ⟨fun b u q => ?_, by simp [w.len], w.nd, w.off, fun j b q => ?_⟩
  · rw [upd_ne (by rintro rfl; rw [hF] at q; cases q)]; exact w.sub b u q
  · by_cases hj : j = i
    · subst hj
      rw [hi] at q; cases q
      have hl : j < st.length := by rw [← w.len]; exact (List.getElem?_eq_some_iff.mp hi).1
      exact ⟨o, h, by rw [List.getElem?_set_self hl], upd_same, r⟩
    · obtain ⟨o', h', e1, e2, e3⟩ := w.at_ j b q
      refine ⟨o', h', by rw [List.getElem?_set_ne (Ne.symm hj)]; exact e1, ?_, e3⟩
      rw [upd_ne ?_]; exact e2
      rintro rfl
      obtain ⟨hi1, e5⟩ := List.getElem?_eq_some_iff.mp hi
      obtain ⟨hj1, e4⟩ := List.getElem?_eq_some_iff.mp q
      exact hj ((List.getElem_inj w.nd).mp (e4.trans e5.symm))
theorem Ext.put {a : Addr} {h : HO} (ha : a ∈ m) : Ext F m H F m (upd H a h) where
  ef := fun _ _ z => z
  em := ⟨[], by simp⟩
  ek := fun b u q hn => by rw [upd_ne (by rintro rfl; exact hn ha)]; exact q
  en := fun _ _ z => z
  eg := fun _ _ _ e => e
end

/-! ### outcomes -/
inductive O (α : Type) where
  | val (a : α) (st : Sto)
  | exc (e : Ex) (st : Sto)
  | bad
def O.bind {α β : Type} : O α → (α → Sto → O β) → O β
  | .val a st, g => g a st
  | .exc e st, _ => .exc e st
  | .bad, _ => .bad
def O.sat {α : Type} (o : O α) (Q : α → Sto → Prop) (E : Ex → Sto → Prop) : Prop :=
  match o with
  | .val a st => Q a st
  | .exc e st => E e st
  | .bad => False
theorem O.sat_bind {α β : Type} {o : O α} {g : α → Sto → O β} {Q : β → Sto → Prop} {E : Ex → Sto → Prop} (h : (o.bind g).sat Q E) : o.sat (fun a st => (g a st).sat Q E) E := by
  cases o <;> exact h
theorem O.sat.imp {α : Type} {o : O α} {Q Q' : α → Sto → Prop} {E E' : Ex → Sto → Prop} (h : o.sat Q E) (hQ : ∀ a st, Q a st → Q' a st) (hE : ∀ e st, E e st → E' e st) : o.sat Q' E' := by
  cases o with
  | val a st => exact hQ _ _ h
  | exc e st => exact hE _ _ h
  | bad => exact h
inductive OS where
  | nx (r : Env) (st : Sto)
  | rt (d : D) (st : Sto)
  | bk (r : Env) (st : Sto)
  | ct (r : Env) (st : Sto)
  | exc (e : Ex) (r : Env) (st : Sto)
  | bad
structure Wants where
  nx : Env → Sto → Prop
  rt : D → Sto → Prop
  bk : Env → Sto → Prop
  ct : Env → Sto → Prop
  ex : Ex → Env → Sto → Prop
def OS.sat (o : OS) (w : Wants) : Prop :=
  match o with
  | .nx r st => w.nx r st
  | .rt d st => w.rt d st
  | .bk r st => w.bk r st
  | .ct r st => w.ct r st
  | .exc e r st => w.ex e r st
  | .bad => False
/-- an expression's outcome into a statement's -/
def O.to {α : Type} (o : O α) (r : Env) (k : α → Sto → OS) : OS :=
  match o with
  | .val a st => k a st
  | .exc e st => .exc e r st
  | .bad => .bad
abbrev DX (α : Type) := Env → Sto → O α
abbrev DS := Env → Sto → OS
abbrev DG := D → Env → Sto → O Env

/-! ### wishes of a stand -/
section
variable (K : PySem.W.Frag) (L : Str → Addr) (W : WX) (P : Option XP) (F : Hp) (m : List Addr) (H : Hp)
def okG {α β : Type} (rel : Hp → List Addr → α → β → Prop) (Q : β → Hp → Prop) : α → Sto → Prop := fun d st' => ∀ F' m' H' v, Ext F m H F' m' H' → Wd K L F' m' st' H' → rel F' m' d v → Q v H'
def exE (s : St) : Ex → Sto → Prop := fun e st' => ∀ F' m' H' d, Ext F m H F' m' H' → Wd K L F' m' st' H' → RepX K F' m' e d → W (.ref (L e.cls)) d s H'
def okN (N : St → Hp → Prop) : Env → Sto → Prop := fun r st' => ∀ F' m' H' s, Ext F m H F' m' H' → Wd K L F' m' st' H' → RepSt K P F' m' r s → N s H'
def exS : Ex → Env → Sto → Prop := fun e r st' => ∀ F' m' H' s d, Ext F m H F' m' H' → Wd K L F' m' st' H' → RepSt K P F' m' r s → RepX K F' m' e d → W (.ref (L e.cls)) d s H'
end
abbrev relE (K : PySem.W.Frag) : Hp → List Addr → D → V → Prop := fun F m => Rep K F m
abbrev relB : Hp → List Addr → Bool → Bool → Prop := fun _ _ a b => a = b
abbrev relA (K : PySem.W.Frag) : Hp → List Addr → List D → List V → Prop := fun F m => Reps K F m
def wants (K : PySem.W.Frag) (L : Str → Addr) (W : WX) (P : Option XP) (F : Hp) (m : List Addr) (H : Hp) (Dn : Ends) : Wants :=
  { nx := okN K L P F m H Dn.nx, rt := okG K L F m H (relE K) Dn.rt, bk := okN K L P F m H Dn.bk, ct := okN K L P F m H Dn.ct, ex := exS K L W P F m H }

/-- the reading of a plain function -/
def cG (K : PySem.W.Frag) (L : Str → Addr) (W : WX) (P : Option XP) {α β : Type} (rel : Hp → List Addr → α → β → Prop) (f : DX α) : St → Hp → (β → Hp → Prop) → Prop := fun s H Q =>
  ∃ F m st r, Wd K L F m st H ∧ RepSt K P F m r s ∧ (f r st).sat (okG K L F m H rel Q) (exE K L W F m H s)
abbrev cE (K : PySem.W.Frag) (L : Str → Addr) (W : WX) (P : Option XP) (f : DX D) : TE := cG K L W P (relE K) f
abbrev cT (K : PySem.W.Frag) (L : Str → Addr) (W : WX) (P : Option XP) (f : DX Bool) : TT := cG K L W P relB f
abbrev cA (K : PySem.W.Frag) (L : Str → Addr) (W : WX) (P : Option XP) (f : DX (List D)) : TA := cG K L W P (relA K) f
def cS (K : PySem.W.Frag) (L : Str → Addr) (W : WX) (P : Option XP) (f : DS) : TS := fun Dn s H =>
  ∃ F m st r, Wd K L F m st H ∧ RepSt K P F m r s ∧ (f r st).sat (wants K L W P F m H Dn)
def cGt (K : PySem.W.Frag) (L : Str → Addr) (W : WX) (P : Option XP) (g : DG) : TG := fun v s H Q =>
  ∃ F m st r d, Wd K L F m st H ∧ RepSt K P F m r s ∧ Rep K F m d v ∧ (g d r st).sat (okN K L P F m H Q) (exE K L W F m H s)

section
variable {K : PySem.W.Frag} {L : Str → Addr} {W : WX} {P : Option XP} {F F1 : Hp} {m m1 : List Addr} {st : Sto} {H H1 : Hp}
theorem okG.ext {α β : Type} {rel : Hp → List Addr → α → β → Prop} {Q : β → Hp → Prop} (x : Ext F m H F1 m1 H1) {a : α} {st : Sto} (h : okG K L F m H rel Q a st) : okG K L F1 m1 H1 rel Q a st :=
  fun F' m' H' v e w r => h F' m' H' v (x.trans e) w r
theorem exE.ext {s : St} (x : Ext F m H F1 m1 H1) {a : Ex} {st : Sto} (h : exE K L W F m H s a st) : exE K L W F1 m1 H1 s a st :=
  fun F' m' H' v e w r => h F' m' H' v (x.trans e) w r
theorem okN.ext {N : St → Hp → Prop} (x : Ext F m H F1 m1 H1) {a : Env} {st : Sto} (h : okN K L P F m H N a st) : okN K L P F1 m1 H1 N a st :=
  fun F' m' H' v e w r => h F' m' H' v (x.trans e) w r
theorem exS.ext (x : Ext F m H F1 m1 H1) {e : Ex} {a : Env} {st : Sto} (h : exS K L W P F m H e a st) : exS K L W P F1 m1 H1 e a st :=
  fun F' m' H' s d e w r q => h F' m' H' s d (x.trans e) w r q
theorem OS.sat.ext {o : OS} {Dn : Ends} (x : Ext F m H F1 m1 H1) (h : o.sat (wants K L W P F m H Dn)) : o.sat (wants K L W P F1 m1 H1 Dn) := by
  cases o with
  | nx r st => exact okN.ext x h
  | rt d st => exact okG.ext x h
  | bk r st => exact okN.ext x h
  | ct r st => exact okN.ext x h
  | exc e r st => exact exS.ext x h
  | bad => exact h

/-- THE STEP: a part f ahead of the rest g -/
theorem step {α β γ : Type} {rel : Hp → List Addr → α → β → Prop} {f : DX α} {g : α → Sto → O γ} {r : Env} {s : St} {Qg : γ → Sto → Prop} {T : β → Hp → Prop} (w : Wd K L F m st H) (hr : RepSt K P F m r s)
    (h : ((f r st).bind g).sat Qg (exE K L W F m H s))
    (k : ∀ a st1 F1 m1 H1 x, Ext F m H F1 m1 H1 → Wd K L F1 m1 st1 H1 → RepSt K P F1 m1 r s → rel F1 m1 a x → (g a st1).sat Qg (exE K L W F1 m1 H1 s) → T x H1) : cG K L W P rel f s H T := by
  refine ⟨F, m, st, r, w, hr, ?_⟩
  refine (O.sat_bind h).imp (fun a st1 q F1 m1 H1 x e w1 ra => ?_) (fun _ _ q => q)
  exact k a st1 F1 m1 H1 x e w1 (hr.ext e) ra (q.imp (fun _ _ z => z) fun _ _ z => exE.ext e z)
/-- the same ahead of a statement's rest -/
theorem stepS {α β : Type} {rel : Hp → List Addr → α → β → Prop} {f : DX α} {g : α → Sto → OS} {r : Env} {s : St} {Dn : Ends} {T : β → Hp → Prop} (w : Wd K L F m st H) (hr : RepSt K P F m r s)
    (h : ((f r st).to r g).sat (wants K L W P F m H Dn))
    (k : ∀ a st1 F1 m1 H1 x, Ext F m H F1 m1 H1 → Wd K L F1 m1 st1 H1 → RepSt K P F1 m1 r s → rel F1 m1 a x → (g a st1).sat (wants K L W P F1 m1 H1 Dn) → T x H1) : cG K L W P rel f s H T := by
  refine ⟨F, m, st, r, w, hr, ?_⟩
  cases q : f r st with
  | val a st1 =>
    rw [q] at h
    exact fun F1 m1 H1 x e w1 ra => k a st1 F1 m1 H1 x e w1 (hr.ext e) ra (OS.sat.ext e h)
  | exc e st1 =>
    rw [q] at h
    exact fun F1 m1 H1 d e w1 ra => h F1 m1 H1 s d e w1 (hr.ext e) ra
  | bad => rw [q] at h; exact h
end

/-! ### weaker readings -/
theorem PEw {X : Cx} {e : Expr} {t t' : TE} (h : PE X e t) (w : ∀ s H Q, t' s H Q → t s H Q) : PE X e t' := ⟨fun pins s σ H Q I q => h.run pins s σ H Q I (w _ _ _ q)⟩
theorem PTw {X : Cx} {e : Expr} {t t' : TT} (h : PT X e t) (w : ∀ s H Q, t' s H Q → t s H Q) : PT X e t' := ⟨fun pins s σ H Q I q => h.run pins s σ H Q I (w _ _ _ q)⟩
theorem PWw {X : Cx} {e : Expr} {t t' : TT} (h : PW X e t) (w : ∀ s H Q, t' s H Q → t s H Q) : PW X e t' := ⟨fun wh pins s σ H Q I q => h.run wh pins s σ H Q I (w _ _ _ q)⟩
theorem PAw {X : Cx} {e : List Expr} {t t' : TA} (h : PA X e t) (w : ∀ s H Q, t' s H Q → t s H Q) : PA X e t' := ⟨fun pos pins s σ H Q I q => h.run pos pins s σ H Q I (w _ _ _ q)⟩
theorem PSw {X : Cx} {e : Stmt} {t t' : TS} (h : PS X e t) (w : ∀ Dn s H, t' Dn s H → t Dn s H) : PS X e t' := ⟨fun pins s σ H Dn I q => h.run pins s σ H Dn I (w _ _ _ q)⟩
theorem PSsw {X : Cx} {e : List Stmt} {t t' : TS} (h : PSs X e t) (w : ∀ Dn s H, t' Dn s H → t Dn s H) : PSs X e t' := ⟨fun pins s σ H Dn I q => h.run pins s σ H Dn I (w _ _ _ q)⟩
theorem PGw {X : Cx} {e : Expr} {t t' : TG} (h : PG X e t) (w : ∀ v s H Q, t' v s H Q → t v s H Q) : PG X e t' := ⟨fun pins s σ H v u Q I r q => h.run pins s σ H v u Q I r (w _ _ _ _ q)⟩
end DL
set_option Elab.async false
set_option linter.all false
set_option maxRecDepth 100000
set_option autoImplicit false
namespace DL
open PySem PySem.Spec L2
/-! ### the plain functions of expressions -/
def ofOpt {α : Type} (o : Option α) (st : Sto) : O α :=
  match o with
  | some a => .val a st
  | none => .bad
def var (i : Nat) : DX D := fun r st => ofOpt (r[i]?.join) st
def con (d : D) : DX D := fun _ st => .val d st
def un (g : Sto → D → Option D) (f : DX D) : DX D := fun r st => (f r st).bind fun x st1 => ofOpt (g st1 x) st1
def bin (g : Sto → D → D → Option D) (fa fb : DX D) : DX D := fun r st => (fa r st).bind fun x st1 => (fb r st1).bind fun y st2 => ofOpt (g st2 x y) st2
def toB (d : D) : Option Bool :=
  match d with
  | .bl b => some b
  | _ => none
def chain (g g' : Sto → D → D → Option D) (fa fb fc : DX D) : DX D := fun r st => (fa r st).bind fun x st1 => (fb r st1).bind fun y st2 => (ofOpt ((g st2 x y).bind toB) st2).bind fun k st3 =>
  if k = true then (fc r st3).bind fun z st4 => ofOpt (g' st4 y z) st4 else .val (.bl false) st3
def asT (f : DX D) : DX Bool := fun r st => (f r st).bind fun d st1 => ofOpt (toB d) st1
def andT (a b : DX Bool) : DX Bool := fun r st => (a r st).bind fun k st1 => if k = true then b r st1 else .val false st1
def orT (a b : DX Bool) : DX Bool := fun r st => (a r st).bind fun k st1 => if k = true then .val true st1 else b r st1
def notT (a : DX Bool) : DX Bool := fun r st => (a r st).bind fun k st1 => .val (!k) st1
def andV (a b : DX D) : DX D := fun r st => (a r st).bind fun d st1 => (ofOpt (toB d) st1).bind fun k st2 => if k = true then b r st2 else .val (.bl false) st2
def orV (a b : DX D) : DX D := fun r st => (a r st).bind fun d st1 => (ofOpt (toB d) st1).bind fun k st2 => if k = true then .val (.bl true) st2 else b r st2
def notV (a : DX D) : DX D := fun r st => (a r st).bind fun d st1 => (ofOpt (toB d) st1).bind fun k st2 => .val (.bl (!k)) st2
def ifE (t : DX Bool) (a b : DX D) : DX D := fun r st => (t r st).bind fun k st1 => if k = true then a r st1 else b r st1
def nilA : DX (List D) := fun _ st => .val [] st
def consA (f : DX D) (g : DX (List D)) : DX (List D) := fun r st => (f r st).bind fun x st1 => (g r st1).bind fun xs st2 => .val (x :: xs) st2
def big (n : Nat) : Bool := decide (n ≤ 1000000)
theorem big_line {n : Nat} (h : big n = true) : n ≤ sizeLine := by
  have := of_decide_eq_true h
  rw [sizeLine_eq]; omega
def tupE (f : DX (List D)) : DX D := fun r st => (f r st).bind fun xs st1 => if big xs.length = true then .val (.tup xs) st1 else .bad
def lstE (f : DX (List D)) : DX D := fun r st => (f r st).bind fun xs st1 => if big xs.length = true then .val (.lst xs) st1 else .bad
def lstS (f : DX (List D)) : DX D := fun r st => (f r st).bind fun xs st1 => if big xs.length = true then .val (.ref st1.length) (st1 ++ [.lst xs]) else .bad
def callV (g : Sto → List D → Option D) (f : DX (List D)) : DX D := fun r st => (f r st).bind fun xs st1 => ofOpt (g st1 xs) st1
def callE (den : List D → Sto → O D) (f : DX (List D)) : DX D := fun r st => (f r st).bind den
/-- a method of a built-in type that may change the store -/
def methE (chk : Sto → D → Bool) (g : Sto → D → List D → Option (D × Sto)) (fo : DX D) (f : DX (List D)) : DX D := fun r st => (fo r st).bind fun x st1 => if chk st1 x = true then (f r st1).bind fun xs st2 =>
  match g st2 x xs with
  | some (d, st3) => .val d st3
  | none => .bad
  else .bad

/-! ### values: what a rule of the hand layer asks, from what a plain function tells -/
section
variable (K : PySem.W.Frag) (L : Str → Addr)
def Ref1 (r : V → Hp → VK → Prop) (g : Sto → D → Option D) : Prop := ∀ F m st H x v y Q, Wd K L F m st H → Rep K F m x v → g st x = some y → okG K L F m H (relE K) Q y st → r v H Q
def Ref2 (r : R2) (g : Sto → D → D → Option D) : Prop := ∀ F m st H x y v u z Q, Wd K L F m st H → Rep K F m x v → Rep K F m y u → g st x y = some z → okG K L F m H (relE K) Q z st → r v u H Q
def RefC (r : List V → Hp → VK → Prop) (g : Sto → List D → Option D) : Prop := ∀ F m st H xs vs y Q, Wd K L F m st H → Reps K F m xs vs → g st xs = some y → okG K L F m H (relE K) Q y st → r vs H Q
def RefM (r : V → List V → Hp → VK → Prop) (g : Sto → D → List D → Option (D × Sto)) : Prop :=
  ∀ F m st H x v xs vs y st' Q, Wd K L F m st H → Rep K F m x v → Reps K F m xs vs → g st x xs = some (y, st') → okG K L F m H (relE K) Q y st' → r v vs H Q
end
theorem Ref2.or {K : PySem.W.Frag} {L : Str → Addr} {r r' : R2} {g g' : Sto → D → D → Option D} (h : Ref2 K L r g) (h' : Ref2 K L r' g') : Ref2 K L (fun x y H Q => r x y H Q ∨ r' x y H Q) (fun st x y => (g st x y).or (g' st x y)) := by
  intro F m st H x y v u z Q w rx ry e q
  dsimp only at e
  cases e1 : g st x y with
  | some z1 =>
    rw [e1] at e
    exact .inl (h F m st H x y v u z Q w rx ry (by rw [e1]; exact e) q)
  | none =>
    rw [e1] at e
    exact .inr (h' F m st H x y v u z Q w rx ry e q)
theorem RefC.or {K : PySem.W.Frag} {L : Str → Addr} {r r' : List V → Hp → VK → Prop} {g g' : Sto → List D → Option D} (h : RefC K L r g) (h' : RefC K L r' g') : RefC K L (fun x H Q => r x H Q ∨ r' x H Q) (fun st x => (g st x).or (g' st x)) := by
  intro F m st H xs vs z Q w rx e q
  dsimp only at e
  cases e1 : g st xs with
  | some z1 =>
    rw [e1] at e
    exact .inl (h F m st H xs vs z Q w rx (by rw [e1]; exact e) q)
  | none =>
    rw [e1] at e
    exact .inr (h' F m st H xs vs z Q w rx e q)

section
variable {X : Cx} {L : Str → Addr} {W : WX} {P : Option XP} {a b c e : Expr} {es : List Expr} {fa fb fc f : DX D} {ga gb gt : DX Bool} {fl : DX (List D)} {pos : Pos}
theorem ofOpt_sat {α : Type} {o : Option α} {st : Sto} {Q : α → Sto → Prop} {E : Ex → Sto → Prop} (h : (ofOpt o st).sat Q E) : ∃ x, o = some x ∧ Q x st := by
  cases o with
  | none => exact h.elim
  | some x => exact ⟨x, rfl, h⟩
theorem d_var {i : Nat} {x : Str} (h : PE X (.Name x pos) (tVar i)) : PE X (.Name x pos) (cE X.K L W P (var i)) := by
  refine PEw h fun s H Q ⟨F, m, st, r, w, hr, q⟩ => ?_
  obtain ⟨d, e, q⟩ := ofOpt_sat q
  obtain ⟨v, ev, rv⟩ := hr.at_ i d (by
    cases z : r[i]? with
    | none => rw [z] at e; cases e
    | some o => rw [z] at e; exact congrArg some e)
  exact ⟨v, ev, q F m H v .refl w rv⟩
theorem d_con {d : D} {v : V} (h : PE X e (tC v)) (r : ∀ F m, Rep X.K F m d v) : PE X e (cE X.K L W P (con d)) := by
  refine PEw h fun s H Q ⟨F, m, st, rr, w, hr, q⟩ => ?_
  exact q F m H v .refl w (r F m)
/-- a part ahead of the rest of an expression -/
theorem stepG {α β γ δ : Type} {K : PySem.W.Frag} {F : Hp} {m : List Addr} {st : Sto} {H : Hp} {rel : Hp → List Addr → α → β → Prop} {rel2 : Hp → List Addr → γ → δ → Prop} {f : DX α} {g : α → Sto → O γ} {r : Env} {s : St} {Q : δ → Hp → Prop} {T : β → Hp → Prop}
    (w : Wd K L F m st H) (hr : RepSt K P F m r s) (h : ((f r st).bind g).sat (okG K L F m H rel2 Q) (exE K L W F m H s))
    (k : ∀ a st1 F1 m1 H1 x, Ext F m H F1 m1 H1 → Wd K L F1 m1 st1 H1 → RepSt K P F1 m1 r s → rel F1 m1 a x → (g a st1).sat (okG K L F1 m1 H1 rel2 Q) (exE K L W F1 m1 H1 s) → T x H1) : cG K L W P rel f s H T :=
  step w hr h fun a st1 F1 m1 H1 x e w1 r1 ra q => k a st1 F1 m1 H1 x e w1 r1 ra (q.imp (fun _ _ z => okG.ext e z) fun _ _ z => z)
theorem d_un {op : UnaryOp} {r : V → Hp → VK → Prop} {g : Sto → D → Option D} (ho : UnR X (unaryOp op) r) (hg : Ref1 X.K L r g) (ha : PE X a (cE X.K L W P fa)) : PE X (.UnaryOp op a pos) (cE X.K L W P (un g fa)) := by
  refine PEw (pe_un ho ha) fun s H Q ⟨F, m, st, rr, w, hr, q⟩ => ?_
  refine stepG w hr q fun x st1 F1 m1 H1 v _ w1 _ rx q1 => ?_
  obtain ⟨y, ey, q1⟩ := ofOpt_sat q1
  exact hg F1 m1 st1 H1 x v y Q w1 rx ey q1
/-- two parts, then a rule of values -/
theorem bin_of {K : PySem.W.Frag} {r : R2} {g : Sto → D → D → Option D} (hg : Ref2 K L r g) {s : St} {H : Hp} {Q : VK} (h : cE K L W P (bin g fa fb) s H Q) : tOp r (cE K L W P fa) (cE K L W P fb) s H Q := by
  obtain ⟨F, m, st, rr, w, hr, q⟩ := h
  refine stepG w hr q fun x st1 F1 m1 H1 v _ w1 r1 rx q1 => ?_
  refine stepG w1 r1 q1 fun y st2 F2 m2 H2 u e2 w2 _ ry q2 => ?_
  obtain ⟨z, ez, q2⟩ := ofOpt_sat q2
  exact hg F2 m2 st2 H2 x y v u z Q w2 (rx.ext e2) ry ez q2
theorem d_op {op : Operator} {r : R2} {g : Sto → D → D → Option D} (ho : OpR X (binaryOp op) r) (hg : Ref2 X.K L r g) (ha : PE X a (cE X.K L W P fa)) (hb : PE X b (cE X.K L W P fb)) : PE X (.BinOp a op b pos) (cE X.K L W P (bin g fa fb)) :=
  PEw (pe_op ho ha hb) fun _ _ _ h => bin_of hg h
theorem d_cmp {op : CmpOp} {r : R2} {g : Sto → D → D → Option D} (ho : OpR X (compareOp op) r) (hg : Ref2 X.K L r g) (ha : PE X a (cE X.K L W P fa)) (hb : PE X b (cE X.K L W P fb)) (hm : behindInMarks op b = false) : PE X (.Compare a [op] [b] pos) (cE X.K L W P (bin g fa fb)) :=
  PEw (pe_cmpR ho ha hb hm) fun _ _ _ h => bin_of hg h
theorem d_ix {r : R2} {g : Sto → D → D → Option D} (ho : IxR X r) (hg : Ref2 X.K L r g) (ha : PE X a (cE X.K L W P fa)) (hb : PE X b (cE X.K L W P fb)) (hs : PlainIx b) : PE X (.Subscript a b pos) (cE X.K L W P (bin g fa fb)) :=
  PEw (pe_ix ho ha hb hs) fun _ _ _ h => bin_of hg h
/-- a value that is a truth -/
theorem test_of {K : PySem.W.Frag} {s : St} {H : Hp} {Q : Bool → Hp → Prop} (h : cT K L W P (asT f) s H Q) : tTest (cE K L W P f) s H Q := by
  obtain ⟨F, m, st, rr, w, hr, q⟩ := h
  refine stepG w hr q fun x st1 F1 m1 H1 v _ w1 _ rx q1 => ?_
  obtain ⟨k, ek, q1⟩ := ofOpt_sat q1
  cases x with
  | bl b =>
    simp only [Rep] at rx
    cases ek
    exact ⟨_, rx, q1 F1 m1 H1 _ .refl w1 rfl⟩
  | _ => cases ek
theorem d_tcmp {op : CmpOp} {r : R2} {g : Sto → D → D → Option D} (ho : OpR X (compareOp op) r) (hg : Ref2 X.K L r g) (ha : PE X a (cE X.K L W P fa)) (hb : PE X b (cE X.K L W P fb)) (hm : behindInMarks op b = false) : PT X (.Compare a [op] [b] pos) (cT X.K L W P (asT (bin g fa fb))) := by
  refine PTw (pt_cmpR ho ha hb hm) fun s H Q h => ?_
  obtain ⟨F, m, st, rr, w, hr, q⟩ := test_of h
  exact bin_of hg ⟨F, m, st, rr, w, hr, q⟩
theorem d_tval (h : PE X e (cE X.K L W P f)) (he : ∀ whole, isTrue e X.env whole = (do let v ← whole; standAt e.pos; holding [v] (truthy v)) := by intro _; rfl) : PT X e (cT X.K L W P (asT f)) :=
  PTw (pt_val h he) fun _ _ _ h => test_of h
/-- three parts: a op b op' c -/
theorem chain_of {K : PySem.W.Frag} {r r' : R2} {g g' : Sto → D → D → Option D} (hg : Ref2 K L r g) (hg' : Ref2 K L r' g') {s : St} {H : Hp} {Q : VK} (h : cE K L W P (chain g g' fa fb fc) s H Q) :
    tChain r r' (cE K L W P fa) (cE K L W P fb) (cE K L W P fc) s H Q := by
  obtain ⟨F, m, st, rr, w, hr, q⟩ := h
  refine stepG w hr q fun x st1 F1 m1 H1 v _ w1 r1 rx q1 => ?_
  refine stepG w1 r1 q1 fun y st2 F2 m2 H2 u e2 w2 r2 ry q2 => ?_
  cases ez : g st2 x y with
  | none => rw [ez] at q2; exact q2.elim
  | some z =>
    rw [ez] at q2
    refine hg F2 m2 st2 H2 x y v u z _ w2 (rx.ext e2) ry ez ?_
    intro F3 m3 H3 zv e3 w3 rz
    cases z with
    | bl k =>
      simp only [Rep] at rz
      refine ⟨k, rz, ?_⟩
      cases k with
      | true =>
        rw [if_pos rfl]
        have q3 : (((fc rr st2).bind fun z st4 => ofOpt (g' st4 y z) st4)).sat (okG K L F3 m3 H3 (relE K) Q) (exE K L W F3 m3 H3 s) :=
          O.sat.imp (show (((fc rr st2).bind fun z st4 => ofOpt (g' st4 y z) st4)).sat (okG K L F2 m2 H2 (relE K) Q) (exE K L W F2 m2 H2 s) from q2) (fun _ _ z => okG.ext e3 z) fun _ _ z => exE.ext e3 z
        refine stepG w3 (r2.ext e3) q3 fun c st4 F4 m4 H4 cv e4 w4 _ rc q4 => ?_
        obtain ⟨d, ed, q4⟩ := ofOpt_sat q4
        exact hg' F4 m4 st4 H4 y c u cv d Q w4 ((ry.ext e3).ext e4) rc ed q4
      | false =>
        rw [if_neg Bool.false_ne_true]
        have q3 : okG K L F2 m2 H2 (relE K) Q (.bl false) st2 := q2
        exact q3 F3 m3 H3 (.bl false) e3 w3 rfl
    | _ => exact q2.elim
theorem d_chain {op op' : CmpOp} {r r' : R2} {g g' : Sto → D → D → Option D} (ho : OpR X (compareOp op) r) (ho' : OpR X (compareOp op') r') (hg : Ref2 X.K L r g) (hg' : Ref2 X.K L r' g') (ha : PE X a (cE X.K L W P fa)) (hb : PE X b (cE X.K L W P fb)) (hc : PE X c (cE X.K L W P fc))
    (hm : lastMarks [op, op'] [b, c] = false := by with_unfolding_all rfl) : PE X (.Compare a [op, op'] [b, c] pos) (cE X.K L W P (chain g g' fa fb fc)) :=
  PEw (pe_chain ho ho' ha hb hc hm) fun _ _ _ h => chain_of hg hg' h
theorem d_tchain {op op' : CmpOp} {r r' : R2} {g g' : Sto → D → D → Option D} (ho : OpR X (compareOp op) r) (ho' : OpR X (compareOp op') r') (hg : Ref2 X.K L r g) (hg' : Ref2 X.K L r' g') (ha : PE X a (cE X.K L W P fa)) (hb : PE X b (cE X.K L W P fb)) (hc : PE X c (cE X.K L W P fc))
    (hm : lastMarks [op, op'] [b, c] = false := by with_unfolding_all rfl) : PT X (.Compare a [op, op'] [b, c] pos) (cT X.K L W P (asT (chain g g' fa fb fc))) := by
  refine PTw (pt_chain ho ho' ha hb hc hm) fun s H Q h => ?_
  obtain ⟨F, m, st, rr, w, hr, q⟩ := test_of h
  exact chain_of hg hg' ⟨F, m, st, rr, w, hr, q⟩

/-! ### and, or, not, if -/
theorem and_of {K : PySem.W.Frag} {s : St} {H : Hp} {Q : Bool → Hp → Prop} (h : cT K L W P (andT ga gb) s H Q) : tAnd (cT K L W P ga) (cT K L W P gb) s H Q := by
  obtain ⟨F, m, st, rr, w, hr, q⟩ := h
  refine stepG w hr q fun x st1 F1 m1 H1 v _ w1 r1 rx q1 => ?_
  have rx : x = v := rx
  subst rx
  cases x with
  | true => rw [if_pos rfl]; exact ⟨F1, m1, st1, rr, w1, r1, q1⟩
  | false => rw [if_neg Bool.false_ne_true]; exact q1 F1 m1 H1 false .refl w1 rfl
theorem or_of {K : PySem.W.Frag} {s : St} {H : Hp} {Q : Bool → Hp → Prop} (h : cT K L W P (orT ga gb) s H Q) : tOr (cT K L W P ga) (cT K L W P gb) s H Q := by
  obtain ⟨F, m, st, rr, w, hr, q⟩ := h
  refine stepG w hr q fun x st1 F1 m1 H1 v _ w1 r1 rx q1 => ?_
  have rx : x = v := rx
  subst rx
  cases x with
  | true => rw [if_pos rfl]; exact q1 F1 m1 H1 true .refl w1 rfl
  | false => rw [if_neg Bool.false_ne_true]; exact ⟨F1, m1, st1, rr, w1, r1, q1⟩
theorem d_and (ha : PT X a (cT X.K L W P ga)) (hb : PW X (.BoolOp .And (b :: es) pos) (cT X.K L W P gb)) : PW X (.BoolOp .And (a :: b :: es) pos) (cT X.K L W P (andT ga gb)) := PWw (pw_and ha hb) fun _ _ _ h => and_of h
theorem d_or (ha : PT X a (cT X.K L W P ga)) (hb : PW X (.BoolOp .Or (b :: es) pos) (cT X.K L W P gb)) : PW X (.BoolOp .Or (a :: b :: es) pos) (cT X.K L W P (orT ga gb)) := PWw (pw_or ha hb) fun _ _ _ h => or_of h
theorem d_not (ha : PT X a (cT X.K L W P ga)) : PT X (.UnaryOp .Not a pos) (cT X.K L W P (notT ga)) := by
  refine PTw (pt_not ha) fun s H Q ⟨F, m, st, rr, w, hr, q⟩ => ?_
  refine stepG w hr q fun x st1 F1 m1 H1 v _ w1 r1 rx q1 => ?_
  have rx : x = v := rx
  subst rx
  exact q1 F1 m1 H1 (!x) .refl w1 rfl
theorem bool_of {K : PySem.W.Frag} {F : Hp} {m : List Addr} {x : D} {v : V} {k : Bool} (rx : Rep K F m x v) (e : toB x = some k) : v = .bl k := by
  cases x with
  | bl b =>
    simp only [Rep] at rx
    cases e
    exact rx
  | _ => cases e
theorem d_andV (ha : PE X a (cE X.K L W P fa)) (hb : PE X (.BoolOp .And (b :: es) pos) (cE X.K L W P fb)) : PE X (.BoolOp .And (a :: b :: es) pos) (cE X.K L W P (andV fa fb)) := by
  refine PEw (pe_and ha hb) fun s H Q ⟨F, m, st, rr, w, hr, q⟩ => ?_
  refine stepG w hr q fun x st1 F1 m1 H1 v _ w1 r1 rx q1 => ?_
  cases ek : toB x with
  | none => rw [ek] at q1; exact q1.elim
  | some k =>
    rw [ek] at q1
    refine ⟨k, bool_of rx ek, ?_⟩
    cases k with
    | true => rw [if_pos rfl]; exact ⟨F1, m1, st1, rr, w1, r1, q1⟩
    | false =>
      rw [if_neg Bool.false_ne_true]
      have q2 : okG X.K L F1 m1 H1 (relE X.K) Q (.bl false) st1 := q1
      exact q2 F1 m1 H1 (.bl false) .refl w1 rfl
theorem d_orV (ha : PE X a (cE X.K L W P fa)) (hb : PE X (.BoolOp .Or (b :: es) pos) (cE X.K L W P fb)) : PE X (.BoolOp .Or (a :: b :: es) pos) (cE X.K L W P (orV fa fb)) := by
  refine PEw (pe_or ha hb) fun s H Q ⟨F, m, st, rr, w, hr, q⟩ => ?_
  refine stepG w hr q fun x st1 F1 m1 H1 v _ w1 r1 rx q1 => ?_
  cases ek : toB x with
  | none => rw [ek] at q1; exact q1.elim
  | some k =>
    rw [ek] at q1
    refine ⟨k, bool_of rx ek, ?_⟩
    cases k with
    | false => rw [if_neg Bool.false_ne_true]; exact ⟨F1, m1, st1, rr, w1, r1, q1⟩
    | true =>
      rw [if_pos rfl]
      have q2 : okG X.K L F1 m1 H1 (relE X.K) Q (.bl true) st1 := q1
      exact q2 F1 m1 H1 (.bl true) .refl w1 rfl
theorem d_notV (ha : PE X a (cE X.K L W P fa)) : PE X (.UnaryOp .Not a pos) (cE X.K L W P (notV fa)) := by
  refine PEw (pe_not ha) fun s H Q ⟨F, m, st, rr, w, hr, q⟩ => ?_
  refine stepG w hr q fun x st1 F1 m1 H1 v _ w1 r1 rx q1 => ?_
  cases ek : toB x with
  | none => rw [ek] at q1; exact q1.elim
  | some k =>
    rw [ek] at q1
    have q2 : okG X.K L F1 m1 H1 (relE X.K) Q (.bl (!k)) st1 := q1
    exact ⟨k, bool_of rx ek, q2 F1 m1 H1 _ .refl w1 rfl⟩
theorem d_if (ht : PT X c (cT X.K L W P gt)) (ha : PE X a (cE X.K L W P fa)) (hb : PE X b (cE X.K L W P fb)) : PE X (.IfExp c a b pos) (cE X.K L W P (ifE gt fa fb)) := by
  refine PEw (pe_ifExp ht ha hb) fun s H Q ⟨F, m, st, rr, w, hr, q⟩ => ?_
  refine stepG w hr q fun x st1 F1 m1 H1 v _ w1 r1 rx q1 => ?_
  have rx : x = v := rx
  subst rx
  cases x with
  | true => rw [if_pos rfl]; exact ⟨F1, m1, st1, rr, w1, r1, q1⟩
  | false => rw [if_neg Bool.false_ne_true]; exact ⟨F1, m1, st1, rr, w1, r1, q1⟩

/-! ### arguments, displays, calls -/
theorem d_nil : PA X [] (cA X.K L W P nilA) := by
  refine PAw pa_nil fun s H Q ⟨F, m, st, rr, w, hr, q⟩ => ?_
  exact q F m H [] .refl w rfl
theorem d_cons (ha : PE X e (cE X.K L W P f)) (hr : PA X es (cA X.K L W P fl)) (hs : starEach (e :: es) X.env = (false, eval e X.env) :: starEach es X.env := by rfl) : PA X (e :: es) (cA X.K L W P (consA f fl)) := by
  refine PAw (pa_cons ha hr hs) fun s H Q ⟨F, m, st, rr, w, hr, q⟩ => ?_
  refine stepG w hr q fun x st1 F1 m1 H1 v _ w1 r1 rx q1 => ?_
  refine stepG w1 r1 q1 fun xs st2 F2 m2 H2 vs e2 w2 r2 rxs q2 => ?_
  exact q2 F2 m2 H2 (v :: vs) .refl w2 ⟨v, vs, rfl, rx.ext e2, rxs⟩
theorem Reps.length {K : PySem.W.Frag} {F : Hp} {m : List Addr} : ∀ {xs : List D} {vs : List V}, Reps K F m xs vs → vs.length = xs.length
  | [], vs, h => by simp only [Reps] at h; rw [h]; rfl
  | d :: ds, vs, h => by
    simp only [Reps] at h
    obtain ⟨v, r, rfl, _, q⟩ := h
    simp only [List.length_cons, Reps.length q]
theorem frozen_tup {K : PySem.W.Frag} {F : Hp} {m : List Addr} {st : Sto} {H : Hp} {xs : List D} {vs : List V} {Q : VK} (w : Wd K L F m st H) (r : Reps K F m xs vs) (q : okG K L F m H (relE K) Q (.tup xs) st) (p : Addr) (hp : H p = none) : Q (.ref p) (upd H p (.tup vs)) := by
  refine q _ _ _ _ (Ext.froze (w.new_F hp) hp) (w.froze hp) ?_
  exact ⟨p, vs, rfl, upd_same, Reps.mono (upd_sub (w.new_F hp)) ⟨[], by simp⟩ _ _ r⟩
theorem frozen_lst {K : PySem.W.Frag} {F : Hp} {m : List Addr} {st : Sto} {H : Hp} {xs : List D} {vs : List V} {Q : VK} (w : Wd K L F m st H) (r : Reps K F m xs vs) (q : okG K L F m H (relE K) Q (.lst xs) st) (p : Addr) (hp : H p = none) : Q (.ref p) (upd H p (.lst vs)) := by
  refine q _ _ _ _ (Ext.froze (w.new_F hp) hp) (w.froze hp) ?_
  exact ⟨p, vs, rfl, upd_same, Reps.mono (upd_sub (w.new_F hp)) ⟨[], by simp⟩ _ _ r⟩
theorem d_tup {k : Nat} (h : PA X es (cA X.K L W P fl)) : PE X (.Tuple es k pos) (cE X.K L W P (tupE fl)) := by
  refine PEw (pe_tup h) fun s H Q ⟨F, m, st, rr, w, hr, q⟩ => ?_
  refine stepG w hr q fun xs st1 F1 m1 H1 vs _ w1 r1 rx q1 => ?_
  by_cases hb : big xs.length = true
  · rw [if_pos hb] at q1
    exact ⟨by rw [Reps.length rx]; exact big_line hb, frozen_tup w1 rx q1⟩
  · rw [if_neg hb] at q1; exact q1.elim
theorem d_lst (h : PA X es (cA X.K L W P fl)) : PE X (.List es pos) (cE X.K L W P (lstE fl)) := by
  refine PEw (pe_lst h) fun s H Q ⟨F, m, st, rr, w, hr, q⟩ => ?_
  refine stepG w hr q fun xs st1 F1 m1 H1 vs _ w1 r1 rx q1 => ?_
  by_cases hb : big xs.length = true
  · rw [if_pos hb] at q1
    exact ⟨by rw [Reps.length rx]; exact big_line hb, frozen_lst w1 rx q1⟩
  · rw [if_neg hb] at q1; exact q1.elim
theorem stored_lst {K : PySem.W.Frag} {F : Hp} {m : List Addr} {st : Sto} {H : Hp} {xs : List D} {vs : List V} {Q : VK} (w : Wd K L F m st H) (r : Reps K F m xs vs) (q : okG K L F m H (relE K) Q (.ref st.length) (st ++ [.lst xs])) (p : Addr) (hp : H p = none) : Q (.ref p) (upd H p (.lst vs)) := by
  refine q _ _ _ _ (Ext.push hp) (w.push (o := .lst xs) hp ⟨vs, rfl, Reps.mono (fun _ _ z => z) ⟨[p], rfl⟩ _ _ r⟩) ?_
  exact ⟨p, rfl, by rw [← w.len, List.getElem?_append_right (Nat.le_refl _), Nat.sub_self]; rfl⟩
theorem d_lstS (h : PA X es (cA X.K L W P fl)) : PE X (.List es pos) (cE X.K L W P (lstS fl)) := by
  refine PEw (pe_lst h) fun s H Q ⟨F, m, st, rr, w, hr, q⟩ => ?_
  refine stepG w hr q fun xs st1 F1 m1 H1 vs _ w1 r1 rx q1 => ?_
  by_cases hb : big xs.length = true
  · rw [if_pos hb] at q1
    exact ⟨by rw [Reps.length rx]; exact big_line hb, stored_lst w1 rx q1⟩
  · rw [if_neg hb] at q1; exact q1.elim
/-- a call of a built-in by values -/
theorem callV_of {K : PySem.W.Frag} {r : List V → Hp → VK → Prop} {g : Sto → List D → Option D} (hg : RefC K L r g) {s : St} {H : Hp} {Q : VK} (h : cE K L W P (callV g fl) s H Q) : tCB r (cA K L W P fl) s H Q := by
  obtain ⟨F, m, st, rr, w, hr, q⟩ := h
  refine stepG w hr q fun xs st1 F1 m1 H1 vs _ w1 r1 rx q1 => ?_
  obtain ⟨y, ey, q1⟩ := ofOpt_sat q1
  exact hg F1 m1 st1 H1 xs vs y Q w1 rx ey q1
theorem d_call {r : List V → Hp → VK → Prop} {g : Sto → List D → Option D} (h : PE X e (tCB r (cA X.K L W P fl))) (hg : RefC X.K L r g) : PE X e (cE X.K L W P (callV g fl)) := PEw h fun _ _ _ q => callV_of hg q
/-- a method of a built-in type -/
def ChkOk (K : PySem.W.Frag) (L : Str → Addr) (T : String) (chk : Sto → D → Bool) : Prop := ∀ F m st H x v, Wd K L F m st H → Rep K F m x v → chk st x = true → tyV K T v H
theorem meth_fin {K : PySem.W.Frag} {F : Hp} {m : List Addr} {st : Sto} {H : Hp} {s : St} {Q : VK} {r : V → List V → Hp → VK → Prop} {g : Sto → D → List D → Option (D × Sto)} (hg : RefM K L r g) {x : D} {v : V} {xs : List D} {vs : List V} (w : Wd K L F m st H)
    (rx : Rep K F m x v) (rxs : Reps K F m xs vs) (q : O.sat (match g st x xs with | some (d, st3) => O.val d st3 | none => O.bad) (okG K L F m H (relE K) Q) (exE K L W F m H s)) : r v vs H Q := by
  cases e : g st x xs with
  | none => rw [e] at q; exact q.elim
  | some p =>
    rw [e] at q
    obtain ⟨y, st3⟩ := p
    exact hg F m st H x v xs vs y st3 Q w rx rxs e q
theorem d_meth {T : String} {r : V → List V → Hp → VK → Prop} {chk : Sto → D → Bool} {g : Sto → D → List D → Option (D × Sto)} (h : PE X e (tBM X.K T r (cE X.K L W P f) (cA X.K L W P fl))) (hg : RefM X.K L r g) (ht : ChkOk X.K L T chk) : PE X e (cE X.K L W P (methE chk g f fl)) := by
  refine PEw h fun s H Q ⟨F, m, st, rr, w, hr, q⟩ => ?_
  refine stepG w hr q fun x st1 F1 m1 H1 v _ w1 r1 rx q1 => ?_
  by_cases hc : chk st1 x = true
  · rw [if_pos hc] at q1
    refine ⟨ht F1 m1 st1 H1 x v w1 rx hc, ?_⟩
    refine stepG w1 r1 q1 fun xs st2 F2 m2 H2 vs e2 w2 r2 rxs q2 => ?_
    exact meth_fin hg w2 (rx.ext e2) rxs q2
  · rw [if_neg hc] at q1; exact q1.elim
theorem d_meth0 {T : String} {r : V → List V → Hp → VK → Prop} {chk : Sto → D → Bool} {g : Sto → D → List D → Option (D × Sto)} (h : PE X e (tBM0 X.K T r (cE X.K L W P f))) (hg : RefM X.K L r g) (ht : ChkOk X.K L T chk) : PE X e (cE X.K L W P (methE chk g f nilA)) := by
  refine PEw h fun s H Q ⟨F, m, st, rr, w, hr, q⟩ => ?_
  refine stepG w hr q fun x st1 F1 m1 H1 v _ w1 r1 rx q1 => ?_
  by_cases hc : chk st1 x = true
  · rw [if_pos hc] at q1
    exact ⟨ht F1 m1 st1 H1 x v w1 rx hc, meth_fin hg w1 rx (xs := []) (vs := []) rfl q1⟩
  · rw [if_neg hc] at q1; exact q1.elim
end

/-! ### statements -/
def nextS : DS := fun r st => .nx r st
def seqS (f g : DS) : DS := fun r st =>
  match f r st with
  | .nx r1 st1 => g r1 st1
  | o => o
def retS (f : DX D) : DS := fun r st => (f r st).to r fun d st1 => .rt d st1
def retN : DS := fun _ st => .rt .non st
def exprS (f : DX D) : DS := fun r st => (f r st).to r fun _ st1 => .nx r st1
def ifS (t : DX Bool) (a b : DS) : DS := fun r st => (t r st).to r fun k st1 => if k = true then a r st1 else b r st1
def asgS (f : DX D) (g : DG) : DS := fun r st => (f r st).to r fun d st1 => (g d r st1).to r fun r2 st2 => .nx r2 st2
def nameG (i : Nat) : DG := fun d r st => .val (r.set i (some d)) st
def parS (i j : Nat) (f : DX (List D)) : DS := fun r st => (f r st).to r fun ds st1 =>
  match ds with
  | [x, y] => .nx ((r.set i (some x)).set j (some y)) st1
  | _ => .bad
def breakS : DS := fun r st => .bk r st
def contS : DS := fun r st => .ct r st
def badS : DS := fun _ _ => .bad
/-- x op= e -/
def augS (i : Nat) (g : Sto → D → D → Option D) (f : DX D) : DS := fun r st => (var i r st).to r fun x st0 => (f r st0).to r fun y st1 => (ofOpt (g st1 x y) st1).to r fun z st2 => .nx (r.set i (some z)) st2
/-- what slots a suite may not touch -/
def free (P : Option XP) (i : Nat) : Prop := ∀ p, P = some p → p.i ≠ i

section
variable {X : Cx} {L : Str → Addr} {W : WX} {P : Option XP} {e : Expr} {f : DX D} {gt : DX Bool} {st : Stmt} {rest : List Stmt} {a b : DS} {pos : Pos}
theorem RepSt.set {K : PySem.W.Frag} {F : Hp} {m : List Addr} {r : Env} {s : St} {i : Nat} {d : D} {v : V} (h : RepSt K P F m r s) (rv : Rep K F m d v) (hP : free P i) : RepSt K P F m (r.set i (some d)) (s.set i (some v)) := by
  refine ⟨by simp [h.len], fun j d' e => ?_, fun p e => ?_⟩
  · by_cases hj : j = i
    · subst hj
      by_cases hl : j < r.length
      · rw [List.getElem?_set_self hl] at e
        cases e
        exact ⟨v, by rw [List.getElem?_set_self (by rw [← h.len]; exact hl)], rv⟩
      · rw [List.getElem?_eq_none (by simpa using hl)] at e; cases e
    · rw [List.getElem?_set_ne (Ne.symm hj)] at e
      obtain ⟨v', e1, e2⟩ := h.at_ j d' e
      exact ⟨v', by rw [List.getElem?_set_ne (Ne.symm hj)]; exact e1, e2⟩
  · obtain ⟨q1, q2, q3⟩ := h.px p e
    have hn := hP p e
    exact ⟨by rw [List.getElem?_set_ne hn.symm]; exact q1, by rw [List.getElem?_set_ne hn.symm]; exact q2, q3⟩
theorem RepSt.unset {K : PySem.W.Frag} {F : Hp} {m : List Addr} {r : Env} {s : St} (i : Nat) (h : RepSt K P F m r s) (hP : free P i) : RepSt K P F m (r.set i none) (s.set i none) := by
  refine ⟨by simp [h.len], fun j d' e => ?_, fun p e => ?_⟩
  · by_cases hj : j = i
    · subst hj
      by_cases hl : j < r.length
      · rw [List.getElem?_set_self hl] at e; cases e
      · rw [List.getElem?_eq_none (by simpa using hl)] at e; cases e
    · rw [List.getElem?_set_ne (Ne.symm hj)] at e
      obtain ⟨v', e1, e2⟩ := h.at_ j d' e
      exact ⟨v', by rw [List.getElem?_set_ne (Ne.symm hj)]; exact e1, e2⟩
  · obtain ⟨q1, q2, q3⟩ := h.px p e
    have hn := hP p e
    exact ⟨by rw [List.getElem?_set_ne hn.symm]; exact q1, by rw [List.getElem?_set_ne hn.symm]; exact q2, q3⟩
theorem d_next : PSs X [] (cS X.K L W P nextS) := by
  refine PSsw pss_nil fun Dn s H ⟨F, m, st, rr, w, hr, q⟩ => ?_
  exact q F m H s .refl w hr
theorem d_seq (h1 : PS X st (cS X.K L W P a)) (h2 : PSs X rest (cS X.K L W P b)) : PSs X (st :: rest) (cS X.K L W P (seqS a b)) := by
  refine PSsw (pss_cons h1 h2) fun Dn s H ⟨F, m, st, rr, w, hr, q⟩ => ?_
  refine ⟨F, m, st, rr, w, hr, ?_⟩
  unfold seqS at q
  cases e : a rr st with
  | nx r1 st1 =>
    rw [e] at q
    exact fun F1 m1 H1 s1 e1 w1 r1' => ⟨F1, m1, st1, r1, w1, r1', OS.sat.ext e1 q⟩
  | rt d st1 => rw [e] at q; exact q
  | bk r1 st1 => rw [e] at q; exact q
  | ct r1 st1 => rw [e] at q; exact q
  | exc x r1 st1 => rw [e] at q; exact q
  | bad => rw [e] at q; exact q
theorem d_one (h : PS X st (cS X.K L W P a)) : PSs X [st] (cS X.K L W P a) := pss_one h
theorem d_ret (he : PE X e (cE X.K L W P f)) : PS X (.Return (some e) pos) (cS X.K L W P (retS f)) := by
  refine PSw (ps_ret he) fun Dn s H ⟨F, m, st, rr, w, hr, q⟩ => ?_
  refine stepS w hr q fun d st1 F1 m1 H1 v _ w1 _ rd q1 => ?_
  exact q1 F1 m1 H1 v .refl w1 rd
theorem d_retN : PS X (.Return none pos) (cS X.K L W P retN) := by
  refine PSw ps_retN fun Dn s H ⟨F, m, st, rr, w, hr, q⟩ => ?_
  exact q F m H .non .refl w rfl
theorem d_pass : PS X (.Pass pos) (cS X.K L W P nextS) := by
  refine PSw ps_pass fun Dn s H ⟨F, m, st, rr, w, hr, q⟩ => ?_
  exact q F m H s .refl w hr
theorem d_break : PS X (.Break pos) (cS X.K L W P breakS) := by
  refine PSw ps_break fun Dn s H ⟨F, m, st, rr, w, hr, q⟩ => ?_
  exact q F m H s .refl w hr
theorem d_cont : PS X (.Continue pos) (cS X.K L W P contS) := by
  refine PSw ps_continue fun Dn s H ⟨F, m, st, rr, w, hr, q⟩ => ?_
  exact q F m H s .refl w hr
theorem d_expr (he : PE X e (cE X.K L W P f)) (hs : swapsWith e none pos.line X.env = pure false := by rfl) : PS X (.Expr e pos) (cS X.K L W P (exprS f)) := by
  refine PSw (ps_expr he hs) fun Dn s H ⟨F, m, st, rr, w, hr, q⟩ => ?_
  refine stepS w hr q fun d st1 F1 m1 H1 v _ w1 r1 rd q1 => ?_
  exact q1 F1 m1 H1 s .refl w1 r1
theorem d_ifS {c : Expr} {xs ys : List Stmt} (hc : PT X c (cT X.K L W P gt)) (ha : PSs X xs (cS X.K L W P a)) (hb : PSs X ys (cS X.K L W P b)) : PS X (.If c xs ys pos) (cS X.K L W P (ifS gt a b)) := by
  refine PSw (ps_if hc ha hb) fun Dn s H ⟨F, m, st, rr, w, hr, q⟩ => ?_
  refine stepS w hr q fun k st1 F1 m1 H1 v _ w1 r1 rd q1 => ?_
  have rd : k = v := rd
  subst rd
  cases k with
  | true => rw [if_pos rfl]; exact ⟨F1, m1, st1, rr, w1, r1, q1⟩
  | false => rw [if_neg Bool.false_ne_true]; exact ⟨F1, m1, st1, rr, w1, r1, q1⟩
theorem name_of {K : PySem.W.Frag} {i : Nat} (hP : free P i) {v : V} {s : St} {H : Hp} {Q : St → Hp → Prop} (h : cGt K L W P (nameG i) v s H Q) : gName i v s H Q := by
  obtain ⟨F, m, st, r, d, w, hr, rd, q⟩ := h
  exact q F m H _ .refl w (hr.set rd hP)
theorem d_nameG {x : Str} {i : Nat} (h : PG X (.Name x pos) (gName i)) (hP : free P i) : PG X (.Name x pos) (cGt X.K L W P (nameG i)) := PGw h fun _ _ _ _ q => name_of hP q
theorem asg_of {K : PySem.W.Frag} {g : DG} {Dn : Ends} {s : St} {H : Hp} (h : cS K L W P (asgS f g) Dn s H) : tAsg (cE K L W P f) (cGt K L W P g) Dn s H := by
  obtain ⟨F, m, st, rr, w, hr, q⟩ := h
  refine stepS w hr q fun d st1 F1 m1 H1 v _ w1 r1 rd q1 => ?_
  refine ⟨F1, m1, st1, rr, d, w1, r1, rd, ?_⟩
  cases e : g d rr st1 with
  | val r2 st2 => rw [e] at q1; exact q1
  | exc x st2 =>
    rw [e] at q1
    exact fun F2 m2 H2 dd e2 w2 rx => q1 F2 m2 H2 s dd e2 w2 (r1.ext e2) rx
  | bad => rw [e] at q1; exact q1
theorem d_asg {tg : Expr} {g : DG} (he : PE X e (cE X.K L W P f)) (hg : PG X tg (cGt X.K L W P g)) (hs : swapsWithSole [tg] e pos.line X.env = pure false := by rfl) (hw : swappedStores [tg] e X.env = pure none := by rfl)
    (h1 : (assignEach [tg] X.env).map (·.2) = [assign tg X.env] := by rfl) : PS X (.Assign [tg] e pos) (cS X.K L W P (asgS f g)) :=
  PSw (ps_asg he hg hs hw h1) fun _ _ _ h => asg_of h
theorem d_set {i : Nat} {x : Str} {pos' : Pos} (h : PS X (.Assign [.Name x pos'] e pos) (tAsg (cE X.K L W P f) (gName i))) (hP : free P i) : PS X (.Assign [.Name x pos'] e pos) (cS X.K L W P (asgS f (nameG i))) := by
  refine PSw h fun Dn s H q => ?_
  obtain ⟨F, m, st, rr, w, hr, q⟩ := asg_of q
  exact ⟨F, m, st, rr, w, hr, q.imp (fun d st1 z F1 m1 H1 v e w1 rv => name_of hP (z F1 m1 H1 v e w1 rv)) fun _ _ z => z⟩
theorem d_par {i j : Nat} {fl : DX (List D)} (h : PS X st (tPar i j (cA X.K L W P fl))) (hi : free P i) (hj : free P j) : PS X st (cS X.K L W P (parS i j fl)) := by
  refine PSw h fun Dn s H ⟨F, m, st, rr, w, hr, q⟩ => ?_
  refine stepS w hr q fun ds st1 F1 m1 H1 vs _ w1 r1 rd q1 => ?_
  match ds, rd, q1 with
  | [x, y], rd, q1 =>
    simp only [Reps] at rd
    obtain ⟨v, _, rfl, rv, u, _, rfl, ru, rfl⟩ := rd
    exact ⟨v, u, rfl, q1 F1 m1 H1 _ .refl w1 ((r1.set rv hi).set ru hj)⟩
  | [], _, q1 => exact q1.elim
  | [_], _, q1 => exact q1.elim
  | _ :: _ :: _ :: _, _, q1 => exact q1.elim
theorem d_aug {i : Nat} {g : Sto → D → D → Option D} {ti : TIp} (hg : Ref2 X.K L ti g) (h : PS X st (tAug i (cE X.K L W P f) ti)) (hP : free P i) : PS X st (cS X.K L W P (augS i g f)) := by
  refine PSw h fun Dn s H ⟨F, m, st, rr, w, hr, q⟩ => ?_
  unfold augS var at q
  cases e : rr[i]?.join with
  | none => rw [e] at q; exact q.elim
  | some x =>
    rw [e] at q
    obtain ⟨v, ev, rv⟩ := hr.at_ i x (by
      cases z : rr[i]? with
      | none => rw [z] at e; cases e
      | some o => rw [z] at e; exact congrArg some e)
    refine ⟨v, ev, ?_⟩
    refine stepS (g := fun y st1 => (ofOpt (g st1 x y) st1).to rr fun z st2 => .nx (rr.set i (some z)) st2) w hr q fun y st1 F1 m1 H1 u e1 w1 r1 ru q1 => ?_
    cases ez : g st1 x y with
    | none => rw [ez] at q1; exact q1.elim
    | some z =>
      rw [ez] at q1
      refine hg F1 m1 st1 H1 x y v u z _ w1 (rv.ext e1) ru ez ?_
      intro F2 m2 H2 zv e2 w2 rz
      exact q1 F2 m2 H2 _ e2 w2 ((r1.ext e2).set rz hP)
end
end DL
set_option Elab.async false
set_option linter.all false
set_option maxRecDepth 100000
set_option autoImplicit false
namespace DL
open PySem PySem.Spec L2
/-! ### loops -/
def loopS (g : DG) (b : DS) : List D → DS
  | [] => fun r st => .nx r st
  | d :: ds => fun r st => (g d r st).to r fun r1 st1 =>
    match b r1 st1 with
    | .nx r2 st2 => loopS g b ds r2 st2
    | .ct r2 st2 => loopS g b ds r2 st2
    | .bk r2 st2 => .nx r2 st2
    | o => o
def forS (fi : DX (List D)) (g : DG) (b : DS) : DS := fun r st => (fi r st).to r fun ds st1 => loopS g b ds r st1
def whileS (t : DX Bool) (b : DS) : Nat → DS
  | 0 => badS
  | n + 1 => fun r st => (t r st).to r fun k st1 => if k = true then
      match b r st1 with
      | .nx r2 st2 => whileS t b n r2 st2
      | .ct r2 st2 => whileS t b n r2 st2
      | .bk r2 st2 => .nx r2 st2
      | o => o
    else .nx r st1
def whileF (fuel : Env → Sto → Nat) (t : DX Bool) (b : DS) : DS := fun r st => whileS t b (fuel r st) r st

/-- an iterator gives these things, one behind another, whatever is done meanwhile -/
def Yields (K : PySem.W.Frag) (L : Str → Addr) (J : It) (F : Hp) (m : List Addr) (ds : List D) : Prop := ∀ F1 m1 st1 H1, (∀ a o, F a = some o → F1 a = some o) → (∃ r, m1 = m ++ r) → Wd K L F1 m1 st1 H1 →
  J.stop ds.length H1 ∧ ∀ i d, ds[i]? = some d → J.go i H1 ∧ ∀ x H2, J.yld i H1 x H2 → ∃ F2, Ext F1 m1 H1 F2 m1 H2 ∧ Wd K L F2 m1 st1 H2 ∧ Rep K F2 m1 d x
def cI (K : PySem.W.Frag) (L : Str → Addr) (W : WX) (P : Option XP) (f : DX (List D)) : TI := fun s H R =>
  ∃ F m st r, Wd K L F m st H ∧ RepSt K P F m r s ∧ (f r st).sat (fun ds st' => ∀ F' m' H' J, Ext F m H F' m' H' → Wd K L F' m' st' H' → Yields K L J F' m' ds → R J H') (exE K L W F m H s)

section
variable {X : Cx} {L : Str → Addr} {W : WX} {P : Option XP} {fi : DX (List D)} {g : DG} {b : DS} {gt : DX Bool} {pos : Pos}
theorem drop_cons {α : Type} {l : List α} {i : Nat} (h : i < l.length) : l.drop i = l[i] :: l.drop (i + 1) := by
  rw [List.drop_eq_getElem_cons h]
theorem wants_ex {K : PySem.W.Frag} {F : Hp} {m : List Addr} {H : Hp} {Dn : Ends} {e : Ex} {r : Env} {s : St} {st : Sto} (hr : RepSt K P F m r s) (h : OS.sat (.exc e r st) (wants K L W P F m H Dn)) : exE K L W F m H s e st :=
  fun F1 m1 H1 d e1 w1 rx => h F1 m1 H1 s d e1 w1 (hr.ext e1) rx
/-- what a loop's body leaves, for the next turn -/
theorem turn_of {K : PySem.W.Frag} {F : Hp} {m : List Addr} {H : Hp} {Dn : Ends} {N : St → Hp → Prop} {o : OS} {k : Env → Sto → OS}
    (h : OS.sat (match o with | .nx r2 st2 => k r2 st2 | .ct r2 st2 => k r2 st2 | .bk r2 st2 => .nx r2 st2 | o => o) (wants K L W P F m H Dn))
    (hn : ∀ r2 st2 F2 m2 H2 s2, Ext F m H F2 m2 H2 → Wd K L F2 m2 st2 H2 → RepSt K P F2 m2 r2 s2 → (k r2 st2).sat (wants K L W P F2 m2 H2 Dn) → N s2 H2) :
    o.sat (wants K L W P F m H { Dn with nx := N, ct := N, bk := Dn.nx }) := by
  cases o with
  | nx r st => exact fun F1 m1 H1 s1 e1 w1 r1 => hn r st F1 m1 H1 s1 e1 w1 r1 (OS.sat.ext e1 h)
  | ct r st => exact fun F1 m1 H1 s1 e1 w1 r1 => hn r st F1 m1 H1 s1 e1 w1 r1 (OS.sat.ext e1 h)
  | bk r st => exact h
  | rt d st => exact h
  | exc e r st => exact h
  | bad => exact h
theorem for_of {K : PySem.W.Frag} {Dn : Ends} {s : St} {H : Hp} (h : cS K L W P (forS fi g b) Dn s H) : tFor (cI K L W P fi) (cGt K L W P g) (cS K L W P b) Dn s H := by
  obtain ⟨F, m, st, rr, w, hr, q⟩ := h
  refine ⟨F, m, st, rr, w, hr, ?_⟩
  unfold forS at q
  cases e : fi rr st with
  | bad => rw [e] at q; exact q
  | exc x st1 => rw [e] at q; exact wants_ex hr q
  | val ds st1 =>
    rw [e] at q
    intro F1 m1 H1 J e1 w1 hy
    have q : (loopS g b ds rr st1).sat (wants K L W P F m H Dn) := q
    refine ⟨fun i n s2 H2 => n = ds.length - i ∧ i ≤ ds.length ∧ ∃ F2 m2 st2 r2, Wd K L F2 m2 st2 H2 ∧ RepSt K P F2 m2 r2 s2 ∧ (∀ a o, F1 a = some o → F2 a = some o) ∧ (∃ r, m2 = m1 ++ r) ∧ (loopS g b (ds.drop i) r2 st2).sat (wants K L W P F2 m2 H2 Dn),
      ⟨_, rfl, Nat.zero_le _, F1, m1, st1, rr, w1, hr.ext e1, fun _ _ z => z, ⟨[], by simp⟩, OS.sat.ext e1 q⟩, ?_⟩
    rintro i n s2 H2 ⟨rfl, hi, F2, m2, st2, r2, w2, hr2, hf, hm, q2⟩
    obtain ⟨hstop, hgo⟩ := hy F2 m2 st2 H2 hf hm w2
    by_cases hlt : i < ds.length
    · obtain ⟨go, hyld⟩ := hgo i ds[i] (List.getElem?_eq_getElem hlt)
      refine .inr ⟨go, fun s3 H3 => ∃ F3 m3 st3 r3, Wd K L F3 m3 st3 H3 ∧ RepSt K P F3 m3 r3 s3 ∧ (∀ a o, F1 a = some o → F3 a = some o) ∧ (∃ r, m3 = m1 ++ r) ∧ (loopS g b (ds.drop (i + 1)) r3 st3).sat (wants K L W P F3 m3 H3 Dn),
        fun s3 H3 z => ⟨ds.length - (i + 1), by omega, rfl, hlt, z⟩, fun x H3 y => ?_⟩
      obtain ⟨F3, e3, w3, rx⟩ := hyld x H3 y
      rw [drop_cons hlt] at q2
      refine ⟨F3, m2, st2, r2, ds[i], w3, hr2.ext e3, rx, ?_⟩
      have q3 := OS.sat.ext e3 q2
      unfold loopS at q3
      cases eg : g ds[i] r2 st2 with
      | bad => rw [eg] at q3; exact q3
      | exc x st3 => rw [eg] at q3; exact wants_ex (hr2.ext e3) q3
      | val r3 st3 =>
        rw [eg] at q3
        intro F4 m4 H4 s4 e4 w4 hr4
        refine ⟨F4, m4, st3, r3, w4, hr4, ?_⟩
        refine turn_of (OS.sat.ext e4 q3) fun r5 st5 F5 m5 H5 s5 e5 w5 hr5 q5 => ?_
        refine ⟨F5, m5, st5, r5, w5, hr5, fun a o z => e5.ef a o (e4.ef a o (e3.ef a o (hf a o z))), ?_, q5⟩
        obtain ⟨x1, y1⟩ := hm
        obtain ⟨x2, y2⟩ := (e4.trans e5).em
        exact ⟨x1 ++ x2, by rw [y2, y1, List.append_assoc]⟩
    · have ei : i = ds.length := by omega
      subst ei
      rw [List.drop_length] at q2
      exact .inl ⟨hstop, q2 F2 m2 H2 s2 .refl w2 hr2⟩
theorem d_for {tg iter : Expr} {body : List Stmt} (hp : PassesOwn (model X.prog X.w) X.A X.env X.xe) (hc : X.calm = true) (hi : PI X tg iter (cI X.K L W P fi)) (hg : PG X tg (cGt X.K L W P g)) (hb : PSs X body (cS X.K L W P b))
    (hs : ∀ x, foldedSetIterable iter X.env x = pure x := by intro _; rfl) : PS X (.For tg iter body [] pos) (cS X.K L W P (forS fi g b)) :=
  PSw (ps_for hp hc hi hg hb hs) fun _ _ _ h => for_of h
theorem while_of {K : PySem.W.Frag} {fuel : Env → Sto → Nat} {Dn : Ends} {s : St} {H : Hp} (h : cS K L W P (whileF fuel gt b) Dn s H) : tWhile (cT K L W P gt) (cS K L W P b) Dn s H := by
  obtain ⟨F, m, st, rr, w, hr, q⟩ := h
  refine ⟨fun n s2 H2 => ∃ F2 m2 st2 r2, Wd K L F2 m2 st2 H2 ∧ RepSt K P F2 m2 r2 s2 ∧ (whileS gt b n r2 st2).sat (wants K L W P F2 m2 H2 Dn), ⟨_, F, m, st, rr, w, hr, q⟩, ?_⟩
  rintro n s2 H2 ⟨F2, m2, st2, r2, w2, hr2, q2⟩
  cases n with
  | zero => exact q2.elim
  | succ n =>
    refine stepS w2 hr2 q2 fun k st3 F3 m3 H3 v _ w3 hr3 rk q3 => ?_
    have rk : k = v := rk
    subst rk
    cases k with
    | false =>
      rw [if_neg Bool.false_ne_true] at q3 ⊢
      exact q3 F3 m3 H3 s2 .refl w3 hr3
    | true =>
      rw [if_pos rfl] at q3 ⊢
      refine ⟨fun s4 H4 => ∃ F4 m4 st4 r4, Wd K L F4 m4 st4 H4 ∧ RepSt K P F4 m4 r4 s4 ∧ (whileS gt b n r4 st4).sat (wants K L W P F4 m4 H4 Dn), fun s4 H4 z => ⟨n, Nat.lt_succ_self n, z⟩, ?_⟩
      exact ⟨F3, m3, st3, r2, w3, hr3, turn_of q3 fun r4 st4 F4 m4 H4 s4 _ w4 hr4 q4 => ⟨F4, m4, st4, r4, w4, hr4, q4⟩⟩
theorem d_while {fuel : Env → Sto → Nat} {c : Expr} {body : List Stmt} (hp : PassesOwn (model X.prog X.w) X.A X.env X.xe) (hc : PT X c (cT X.K L W P gt)) (hb : PSs X body (cS X.K L W P b)) : PS X (.While c body [] pos) (cS X.K L W P (whileF fuel gt b)) :=
  PSw (ps_while hp hc hb) fun _ _ _ h => while_of h

/-! ### what is walked -/
/-- the things of a list or tuple that never changes, of the script -/
def itemsOf (d : D) : Option (List D) :=
  match d with
  | .tup xs => some xs
  | .lst xs => some xs
  | .scr ns => some (ns.map .int)
  | _ => none
theorem Reps.get {K : PySem.W.Frag} {F : Hp} {m : List Addr} : ∀ {xs : List D} {vs : List V} {i : Nat} {d : D}, Reps K F m xs vs → xs[i]? = some d → ∃ v, vs[i]? = some v ∧ Rep K F m d v
  | [], _, _, _, _, e => by simp at e
  | x :: xs, vs, 0, d, h, e => by
    simp only [Reps] at h
    obtain ⟨v, r, rfl, p, q⟩ := h
    cases e
    exact ⟨v, rfl, p⟩
  | x :: xs, vs, i + 1, d, h, e => by
    simp only [Reps] at h
    obtain ⟨v, r, rfl, p, q⟩ := h
    exact Reps.get (i := i) q (by simpa using e)
theorem reps_ints (K : PySem.W.Frag) (F : Hp) (m : List Addr) : ∀ ns : List Int, Reps K F m (ns.map .int) (ns.map V.int)
  | [] => rfl
  | n :: ns => ⟨_, _, rfl, rfl, reps_ints K F m ns⟩
theorem SqL.sub {K : PySem.W.Frag} {F H : Hp} (h : ∀ a o, F a = some o → H a = some o) {a : Addr} {vs : List V} (q : SqL K F a vs) : SqL K H a vs := Same.seq h q
end
end DL
set_option Elab.async false
set_option linter.all false
set_option maxRecDepth 100000
set_option autoImplicit false
/-! enumerate over a tuple, as an iterator of the hand layer -/
namespace DLE
open PySem
section
variable {prog : Program} {w : World} {A : Around} {E : Value → Shared → Prop} {s : Shared}
set_option maxHeartbeats 1000000 in
theorem enum_made {v : Value} {o : Obj} {Hh : Heap → Prop} (B : Begins v o Hh) :
    Meets (Builtin.«enumerate.__new__» ⟨[.type "enumerate", v], []⟩) (fun _ R s => Hh s.heap ∧
      R (.ok (.ret (.ref (s.heap.push o).objs.size))) { s with heap := (s.heap.push o).push { cls := .type "enumerate", data := .fields #[.none, .bool false, .ref s.heap.objs.size, rawInt 0, .none, .none] } }) :=
  .of_wp fun prog w A R s h => by
    obtain ⟨hp, g, d, tk, os⟩ := s
    obtain ⟨hh, hR⟩ := h
    have isub := sub_enumerate
    have walks : ∀ {A' : Around} {E' : Value → Shared → Prop} {Q' : Value → Shared → Prop}, Q' (.ref hp.objs.size) ⟨hp.push o, g, d, tk, os⟩ → wpAny (model prog w) A' (pyIter v) Q' E' ⟨hp, g, d, tk, os⟩ :=
      fun z => B.iter prog w _ _ ⟨hp, g, d, tk, os⟩ _ hh z
    wp_walk using walks
    refine wpAny_stack_any fun sk => wpAny_pure ?_
    split
    · rename_i cc _ _ _ _ _
      cases (cc == Value.type "enumerate")
      · wp_walk using walks
        exact ⟨_, rfl, hR⟩
      · wp_walk using walks
        exact ⟨_, rfl, hR⟩
    · wp_walk using walks
      exact ⟨_, rfl, hR⟩
/-- enumerate(t), t a tuple: two new cells -/
theorem call_enumT {t : Addr} {items : Array Value} {Q : Value → Shared → Prop} (ht : s.heap.IsTuple t items)
    (h : ∀ h', IsEnum h' (s.heap.objs.size + 1) s.heap.objs.size 0 .none → h'.IsTupleIter s.heap.objs.size t 0 → (∀ b o, s.heap.get? b = some o → h'.get? b = some o) → Q (.ref (s.heap.objs.size + 1)) { s with heap := h' }) :
    wpAny (model prog w) A (call (.type "enumerate") [.ref t]) Q E s := by
  refine callType_new F.called_enumerate (by decide) (F.typeCall_enumerate_1 _) (F.newCall_enumerate_1 _) (fun obj => F.args_object_init_2 obj _) F.entry_enumerate_new (enum_made (begins_tuple t items)) ⟨ht, ?_⟩
  have hz : ∀ o : Obj, (s.heap.push o).objs.size = s.heap.objs.size + 1 := fun o => Heap.size_push ..
  show _ ∧ _
  rw [hz]
  refine ⟨⟨{ cls := .type "enumerate", data := .fields #[.none, .bool false, .ref s.heap.objs.size, rawInt 0, .none, .none] }, ?_, rfl⟩, h _ ?_ ⟨_, Heap.get?_push_of_some _ (Heap.get?_push_size _ rfl), rfl, rfl⟩ fun b o x => Heap.get?_push_of_some _ (Heap.get?_push_of_some _ x)⟩
  · have q := Heap.get?_push_size (s.heap.push { cls := .type "tuple_iterator", data := .fields #[.ref t, .int 0 0] }) (o := { cls := .type "enumerate", data := .fields #[.none, .bool false, .ref s.heap.objs.size, rawInt 0, .none, .none] }) rfl
    rw [hz] at q
    exact q
  · have q := Heap.get?_push_size (s.heap.push { cls := .type "tuple_iterator", data := .fields #[.ref t, .int 0 0] }) (o := { cls := .type "enumerate", data := .fields #[.none, .bool false, .ref s.heap.objs.size, rawInt 0, .none, .none] }) rfl
    rw [hz] at q
    exact q
end
end DLE
namespace DL
open PySem PySem.Spec L2
/-- the tuple at a, with numbers, each in a new pair -/
def IteT (K : PySem.W.Frag) (a : Addr) : It :=
  ⟨fun i H => ∃ (xs : List V) (x : V), SqT K H a xs ∧ xs[i]? = some x, fun i H v H' => ∃ T x, v = .ref T ∧ H T = none ∧ H' = upd H T (.tup [.int (i : Nat), x]) ∧ ∀ xs, SqT K H a xs → xs[i]? = some x, fun i H => ∃ xs : List V, SqT K H a xs ∧ xs.length ≤ i⟩
theorem turn_enumT {P : Program} {w : World} {K : PySem.W.Frag} {elts : List Expr} {kk : Nat} {tpos : Pos} (a e it : Addr) (items : Array Value) (hai : a ≠ it) (hae : a ≠ e) :
    Turn P w K (.Tuple elts kk tpos) (IteT K a) [e, it] e (fun i h => (∃ old, IsEnum h e it ((i : Nat) : Int) old) ∧ h.IsTupleIter it a i ∧ e ≠ it ∧ e ≠ a) where
  mem := by simp
  obj := fun i h st b hb => by
    obtain ⟨⟨old, he⟩, ⟨o, ho, hc, hd⟩, _⟩ := st
    rcases (by simpa using hb : b = e ∨ b = it) with rfl | rfl
    · exact ⟨_, he, fun v q => nomatch q⟩
    · exact ⟨o, ho, fun v q => by rw [hd] at q; cases q⟩
  keep := fun i h h' st k => ⟨let ⟨old, he⟩ := st.1; ⟨old, k e (by simp) _ he⟩, st.2.1.at fun o q => k it (by simp) o q, st.2.2⟩
  item := by
    intro X hP hw hK hc i pins s σ H E I hf st hg
    subst hP hw hK
    obtain ⟨⟨old, he⟩, hit, hne, hea⟩ := st
    obtain ⟨xs, x, hq, hx⟩ := hg
    obtain ⟨its, rv, p, hz⟩ := I.tuple hq
    obtain ⟨u, hu, ru⟩ := rv.get hx
    have hel : e < s.heap.objs.size := Heap.lt_size he
    have hil : it < s.heap.objs.size := by obtain ⟨_, q, _⟩ := hit; exact Heap.lt_size q
    have hxl : i < its.toArray.size := by
      have := (List.getElem?_eq_some_iff.mp hu).1
      simpa using this
    refine wpAny_pyNext_enum_itemD (Draws.tuple (A := X.A.in1) (I.ok.hd hc) it a hai its.toArray) he ⟨hit, p⟩ hxl hne (by simp [hne, hea]) fun x' h' tk hPx ho st' hT hsz hk => ?_
    have hx' : x' = u := by
      have q : its.toArray[i]? = some u := by simpa using hu
      rw [q] at hPx
      exact (Option.some.inj hPx).symm
    subst hx'
    refine ⟨_, rfl, wpAny_letOwnedTupleGo_enum (s := { s with heap := h', toks := tk + 1 }) ho fun h'' he' sb => ?_⟩
    have hT2 : h''.get? s.heap.objs.size = some { cls := .type "tuple", data := .seq #[.int i tk, x'] } := (sb.2 _ (Nat.ne_of_gt hel)).trans hT
    have new : ObjOk X.prog X.w (upd H s.heap.objs.size (.tup [.int (i : Nat), x])) h'' s.heap.objs.size (.tup [.int (i : Nat), x]) :=
      ⟨by show 2 ≤ sizeLine; decide, [.int i tk, x'], .cons ⟨_, rfl⟩ (.cons ru .nil), ⟨_, hT2, rfl, _, rfl⟩⟩
    have I1 : Inv X pins σ (upd H s.heap.objs.size (.tup [.int (i : Nat), x])) { s with heap := h'', toks := tk + 1 } :=
      I.turnedNew (ch := [e, it]) (fun b ob hb q => (sb.2 b (fun z => hb (by simp [z]))).trans (hk b ob (fun z => hb (by simp [z])) (fun z => hb (by simp [z])) q)) hf (Nat.le_refl _) new
    refine ⟨.ref s.heap.objs.size, _, I1, rfl, ⟨_, x, rfl, I.hok.fresh (Nat.le_refl _), rfl, fun ys hy => by rw [I.tuple_inj hy hq]; exact hx⟩, ⟨⟨x', ?_⟩, st'.1.at fun o q => (sb.2 it (Ne.symm hne)).trans q, hne, hea⟩, fun b hb => ?_⟩
    · have e1 : ((i + 1 : Nat) : Int) = (i : Int) + 1 := by omega
      rw [e1]; exact he'
    · have hb' : b < s.heap.objs.size := by
        rcases (by simpa using hb : b = e ∨ b = it) with rfl | rfl
        · exact hel
        · exact hil
      rw [upd_ne (Nat.ne_of_lt hb')]
      exact (hf b hb).1
  done := by
    intro X hP hw hK hc i pins s σ H E I hf st hg
    subst hP hw hK
    obtain ⟨⟨old, he⟩, hit, hne, hea⟩ := st
    obtain ⟨xs, hq, hx⟩ := hg
    obtain ⟨its, rv, p, hz⟩ := I.tuple hq
    obtain ⟨f0, f1, f2, f3, f4, f5⟩ := hf it (by simp)
    have hl := rv.length
    have Dn : Draws X.prog X.w X.A.in1 it [it, a] i (fun _ _ => False) (fun j h => j = i ∧ h.IsTupleIter it a i ∧ h.IsTuple a its.toArray) :=
      { live := fun _ _ st => let ⟨o, ho, _⟩ := st.2.1; ⟨o, ho⟩
        frame := fun _ _ _ st hk => ⟨st.1, st.2.1.at fun o e => hk it (by simp) o e, st.2.2.at fun o e => hk a (by simp) o e⟩
        item := fun j s Q E hj st _ => by obtain ⟨rfl, _⟩ := st; exact absurd hj (Nat.lt_irrefl _)
        done := fun s Q E st hE => wpAny_nextOf_tuple_end (I.ok.hd hc) st.2.1 st.2.2 (by simp; omega) hE }
    exact wpAny_pyNext_enum_endD Dn he ⟨rfl, hit, p⟩ fun h' eb => ⟨rfl, I.turned (t' := s.toks) (fun b o hb q => eb b o hb q) f0 f1 f3 f4 f5⟩
  self := fun A i s Q E st h => let ⟨⟨_, he⟩, _⟩ := st; wpAny_pyIter_enum he h
end DL
set_option Elab.async false
set_option linter.all false
set_option maxRecDepth 100000
set_option autoImplicit false
namespace DL
open PySem PySem.Spec L2
section
variable {X : Cx} {L : Str → Addr} {W : WX} {P : Option XP} {f fa fb : DX D} {fl : DX (List D)} {pos : Pos}
/-! ### what iterators give -/
theorem yields_list {K : PySem.W.Frag} {F : Hp} {m : List Addr} {a : Addr} {ds : List D} {vs : List V} (hq : SqL K F a vs) (r : Reps K F m ds vs) : Yields K L (Itl K a) F m ds := by
  intro F1 m1 st1 H1 hf hm w1
  have q1 : SqL K H1 a vs := SqL.sub w1.sub (SqL.sub hf hq)
  have r1 := Reps.mono hf hm _ _ r
  refine ⟨⟨vs, q1, by rw [Reps.length r]; exact Nat.le_refl _⟩, fun i d e => ?_⟩
  obtain ⟨v, ev, rv⟩ := Reps.get r1 e
  refine ⟨⟨vs, v, q1, ev⟩, fun x H2 y => ?_⟩
  obtain ⟨rfl, y⟩ := y
  have ex := y vs q1
  rw [ev] at ex
  cases ex
  exact ⟨F1, .refl, w1, rv⟩
theorem SqT.sub {K : PySem.W.Frag} {F H : Hp} (h : ∀ a o, F a = some o → H a = some o) {a : Addr} {vs : List V} (q : SqT K F a vs) : SqT K H a vs := by
  rcases q with (q | ⟨o, q⟩) | q
  · exact .inl (.inl (h _ _ q))
  · exact .inl (.inr ⟨o, h _ _ q⟩)
  · exact .inr q
theorem yields_tup {K : PySem.W.Frag} {F : Hp} {m : List Addr} {a : Addr} {ds : List D} {vs : List V} (hq : SqT K F a vs) (r : Reps K F m ds vs) : Yields K L (Itt K a) F m ds := by
  intro F1 m1 st1 H1 hf hm w1
  have q1 : SqT K H1 a vs := SqT.sub w1.sub (SqT.sub hf hq)
  have r1 := Reps.mono hf hm _ _ r
  refine ⟨⟨vs, q1, by rw [Reps.length r]; exact Nat.le_refl _⟩, fun i d e => ?_⟩
  obtain ⟨v, ev, rv⟩ := Reps.get r1 e
  refine ⟨⟨vs, v, q1, ev⟩, fun x H2 y => ?_⟩
  obtain ⟨rfl, y⟩ := y
  have ex := y vs q1
  rw [ev] at ex
  cases ex
  exact ⟨F1, .refl, w1, rv⟩
def rangeD (lo : Int) (n : Nat) : List D := (List.range n).map fun (k : Nat) => D.int (lo + (k : Int))
theorem yields_range {K : PySem.W.Frag} {F : Hp} {m : List Addr} (lo : Int) (n : Nat) : Yields K L (Itr lo n) F m (rangeD lo n) := by
  intro F1 m1 st1 H1 hf hm w1
  refine ⟨by show n ≤ (rangeD lo n).length; simp [rangeD], fun i d e => ?_⟩
  have e : (rangeD lo n)[i]? = some d := e
  unfold rangeD at e
  rw [List.getElem?_map] at e
  cases q : (List.range n)[i]? with
  | none => rw [q] at e; cases e
  | some j =>
    rw [q] at e
    obtain ⟨hi, ej⟩ := List.getElem?_eq_some_iff.mp q
    rw [List.length_range] at hi
    rw [List.getElem_range] at ej
    subst ej
    cases e
    refine ⟨hi, fun x H2 y => ?_⟩
    obtain ⟨rfl, rfl⟩ := y
    exact ⟨F1, .refl, w1, rfl⟩
def enumFrom : Nat → List D → List D
  | _, [] => []
  | i, d :: ds => .tup [.int (i : Nat), d] :: enumFrom (i + 1) ds
theorem enumFrom_get : ∀ (ds : List D) (k i : Nat) (d : D), (enumFrom k ds)[i]? = some d → ∃ x, ds[i]? = some x ∧ d = .tup [.int ((k + i : Nat) : Int), x]
  | [], _, _, _, e => by simp [enumFrom] at e
  | x :: ds, k, 0, d, e => by
    simp only [enumFrom, List.getElem?_cons_zero, Option.some.injEq] at e
    exact ⟨x, rfl, e.symm⟩
  | x :: ds, k, i + 1, d, e => by
    simp only [enumFrom, List.getElem?_cons_succ] at e
    obtain ⟨y, h1, h2⟩ := enumFrom_get ds (k + 1) i d e
    exact ⟨y, by simpa using h1, by rw [h2, show k + 1 + i = k + (i + 1) by omega]⟩
theorem enumFrom_length : ∀ (ds : List D) (k : Nat), (enumFrom k ds).length = ds.length
  | [], _ => rfl
  | _ :: ds, k => by simp [enumFrom, enumFrom_length ds]
/-- a new pair, given out by an iterator -/
theorem pair_new {K : PySem.W.Frag} {F1 H1 : Hp} {m1 : List Addr} {st1 : Sto} (w1 : Wd K L F1 m1 st1 H1) {T : Addr} {x y : V} {d e : D} (hT : H1 T = none) (rx : Rep K F1 m1 d x) (ry : Rep K F1 m1 e y) :
    ∃ F2, Ext F1 m1 H1 F2 m1 (upd H1 T (.tup [x, y])) ∧ Wd K L F2 m1 st1 (upd H1 T (.tup [x, y])) ∧ Rep K F2 m1 (.tup [d, e]) (.ref T) := by
  have x1 : Ext F1 m1 H1 (upd F1 T (.tup [x, y])) m1 (upd H1 T (.tup [x, y])) := Ext.froze (w1.new_F hT) hT
  exact ⟨_, x1, w1.froze hT, T, [x, y], rfl, upd_same, x, [y], rfl, rx.ext x1, y, [], rfl, ry.ext x1, rfl⟩
theorem yields_enumL {K : PySem.W.Frag} {F : Hp} {m : List Addr} {a : Addr} {ds : List D} {vs : List V} (hq : SqL K F a vs) (r : Reps K F m ds vs) : Yields K L (Ite K a) F m (enumFrom 0 ds) := by
  intro F1 m1 st1 H1 hf hm w1
  have q1 : SqL K H1 a vs := SqL.sub w1.sub (SqL.sub hf hq)
  have r1 := Reps.mono hf hm _ _ r
  refine ⟨⟨vs, q1, by rw [Reps.length r, enumFrom_length]; exact Nat.le_refl _⟩, fun i d e => ?_⟩
  obtain ⟨d0, e0, rfl⟩ := enumFrom_get ds 0 i d e
  obtain ⟨v, ev, rv⟩ := Reps.get r1 e0
  refine ⟨⟨vs, v, q1, ev⟩, fun x H2 y => ?_⟩
  obtain ⟨T, x', rfl, hT, rfl, y⟩ := y
  have ex := y vs q1
  rw [ev] at ex
  cases ex
  refine pair_new w1 hT ?_ rv
  rw [Nat.zero_add]; exact rfl
theorem yields_enumT {K : PySem.W.Frag} {F : Hp} {m : List Addr} {a : Addr} {ds : List D} {vs : List V} (hq : SqT K F a vs) (r : Reps K F m ds vs) : Yields K L (IteT K a) F m (enumFrom 0 ds) := by
  intro F1 m1 st1 H1 hf hm w1
  have q1 : SqT K H1 a vs := SqT.sub w1.sub (SqT.sub hf hq)
  have r1 := Reps.mono hf hm _ _ r
  refine ⟨⟨vs, q1, by rw [Reps.length r, enumFrom_length]; exact Nat.le_refl _⟩, fun i d e => ?_⟩
  obtain ⟨d0, e0, rfl⟩ := enumFrom_get ds 0 i d e
  obtain ⟨v, ev, rv⟩ := Reps.get r1 e0
  refine ⟨⟨vs, v, q1, ev⟩, fun x H2 y => ?_⟩
  obtain ⟨T, x', rfl, hT, rfl, y⟩ := y
  have ex := y vs q1
  rw [ev] at ex
  cases ex
  refine pair_new w1 hT ?_ rv
  rw [Nat.zero_add]; exact rfl
def zipD : List D → List D → List D
  | x :: xs, y :: ys => .tup [x, y] :: zipD xs ys
  | _, _ => []
theorem zipD_get : ∀ (xs ys : List D) (i : Nat) (d : D), (zipD xs ys)[i]? = some d → ∃ x y, xs[i]? = some x ∧ ys[i]? = some y ∧ d = .tup [x, y]
  | [], _, i, d, e => by simp [zipD] at e
  | _ :: _, [], i, d, e => by simp [zipD] at e
  | x :: xs, y :: ys, 0, d, e => by
    simp only [zipD, List.getElem?_cons_zero, Option.some.injEq] at e
    exact ⟨x, y, rfl, rfl, e.symm⟩
  | x :: xs, y :: ys, i + 1, d, e => by
    simp only [zipD, List.getElem?_cons_succ] at e
    obtain ⟨x1, y1, h1, h2, h3⟩ := zipD_get xs ys i d e
    exact ⟨x1, y1, by simpa using h1, by simpa using h2, h3⟩
theorem zipD_length : ∀ (xs ys : List D), (zipD xs ys).length = min xs.length ys.length
  | [], _ => by simp [zipD]
  | _ :: _, [] => by simp [zipD]
  | x :: xs, y :: ys => by simp [zipD, zipD_length xs ys]
theorem yields_zipL {K : PySem.W.Frag} {F : Hp} {m : List Addr} {a b : Addr} {ds es : List D} {vs us : List V} (hq : SqL K F a vs) (hq' : SqL K F b us) (r : Reps K F m ds vs) (r' : Reps K F m es us) : Yields K L (Itz K a b) F m (zipD ds es) := by
  intro F1 m1 st1 H1 hf hm w1
  have q1 : SqL K H1 a vs := SqL.sub w1.sub (SqL.sub hf hq)
  have q2 : SqL K H1 b us := SqL.sub w1.sub (SqL.sub hf hq')
  have r1 := Reps.mono hf hm _ _ r
  have r2 := Reps.mono hf hm _ _ r'
  refine ⟨⟨vs, us, q1, q2, by rw [Reps.length r, Reps.length r', zipD_length]; omega⟩, fun i d e => ?_⟩
  obtain ⟨x0, y0, e1, e2, rfl⟩ := zipD_get ds es i d e
  obtain ⟨v, ev, rv⟩ := Reps.get r1 e1
  obtain ⟨u, eu, ru⟩ := Reps.get r2 e2
  refine ⟨⟨vs, us, v, u, q1, q2, ev, eu⟩, fun x H2 y => ?_⟩
  obtain ⟨T, x', y', rfl, hT, rfl, z1, z2⟩ := y
  have ex := z1 vs q1
  have ey := z2 us q2
  rw [ev] at ex; rw [eu] at ey
  cases ex; cases ey
  exact pair_new w1 hT rv ru
theorem yields_zipT {K : PySem.W.Frag} {F : Hp} {m : List Addr} {a b : Addr} {ds es : List D} {vs us : List V} (hq : SqT K F a vs) (hq' : SqT K F b us) (r : Reps K F m ds vs) (r' : Reps K F m es us) : Yields K L (RZ.ItzT K a b) F m (zipD ds es) := by
  intro F1 m1 st1 H1 hf hm w1
  have q1 : SqT K H1 a vs := SqT.sub w1.sub (SqT.sub hf hq)
  have q2 : SqT K H1 b us := SqT.sub w1.sub (SqT.sub hf hq')
  have r1 := Reps.mono hf hm _ _ r
  have r2 := Reps.mono hf hm _ _ r'
  refine ⟨⟨vs, us, q1, q2, by rw [Reps.length r, Reps.length r', zipD_length]; omega⟩, fun i d e => ?_⟩
  obtain ⟨x0, y0, e1, e2, rfl⟩ := zipD_get ds es i d e
  obtain ⟨v, ev, rv⟩ := Reps.get r1 e1
  obtain ⟨u, eu, ru⟩ := Reps.get r2 e2
  refine ⟨⟨vs, us, v, u, q1, q2, ev, eu⟩, fun x H2 y => ?_⟩
  obtain ⟨T, x', y', rfl, hT, rfl, z1, z2⟩ := y
  have ex := z1 vs q1
  have ey := z2 us q2
  rw [ev] at ex; rw [eu] at ey
  cases ex; cases ey
  exact pair_new w1 hT rv ru

/-! ### the sources of loops -/
def itemsI (f : DX D) : DX (List D) := fun r st => (f r st).bind fun d st1 => ofOpt (itemsOf d) st1
def enumI (f : DX (List D)) : DX (List D) := fun r st => (f r st).bind fun ds st1 =>
  match ds with
  | [d] => ofOpt ((itemsOf d).map (enumFrom 0)) st1
  | _ => .bad
def listOf (d : D) : Option (List D) :=
  match d with
  | .lst xs => some xs
  | .scr ns => some (ns.map .int)
  | _ => none
def tupOf (d : D) : Option (List D) :=
  match d with
  | .tup xs => some xs
  | _ => none
def zip2 (x y : D) : Option (List D) :=
  match tupOf x, tupOf y with
  | some a, some b => some (zipD a b)
  | _, _ => match listOf x, listOf y with
    | some a, some b => some (zipD a b)
    | _, _ => none
def zipI (f : DX (List D)) : DX (List D) := fun r st => (f r st).bind fun ds st1 =>
  match ds with
  | [x, y] => ofOpt (zip2 x y) st1
  | _ => .bad
def rng1 (n : Int) : Option (List D) := if -(2 ^ 62) ≤ n ∧ n < 2 ^ 62 then some (rangeD 0 n.toNat) else none
def rng2 (i j : Int) : Option (List D) := if -(2 ^ 62) ≤ i ∧ i < 2 ^ 62 ∧ -(2 ^ 62) ≤ j ∧ j < 2 ^ 62 then some (rangeD i (j - i).toNat) else none
def range1I (f : DX (List D)) : DX (List D) := fun r st => (f r st).bind fun ds st1 =>
  match ds with
  | [.int n] => ofOpt (rng1 n) st1
  | _ => .bad
def range2I (f : DX (List D)) : DX (List D) := fun r st => (f r st).bind fun ds st1 =>
  match ds with
  | [.int i, .int j] => ofOpt (rng2 i j) st1
  | _ => .bad
theorem listOf_rep {K : PySem.W.Frag} {F : Hp} {m : List Addr} {d : D} {v : V} {xs : List D} (h : Rep K F m d v) (e : listOf d = some xs) : ∃ a vs, v = .ref a ∧ SqL K F a vs ∧ Reps K F m xs vs := by
  cases d with
  | lst ys =>
    cases e
    obtain ⟨a, vs, h1, h2, h3⟩ := h
    exact ⟨a, vs, h1, SqL.of h2, h3⟩
  | scr ns =>
    cases e
    obtain ⟨a, h1, h2⟩ := h
    exact ⟨a, _, h1, h2, reps_ints K F m ns⟩
  | _ => cases e
theorem tupOf_rep {K : PySem.W.Frag} {F : Hp} {m : List Addr} {d : D} {v : V} {xs : List D} (h : Rep K F m d v) (e : tupOf d = some xs) : ∃ a vs, v = .ref a ∧ SqT K F a vs ∧ Reps K F m xs vs := by
  cases d with
  | tup ys =>
    cases e
    obtain ⟨a, vs, h1, h2, h3⟩ := h
    exact ⟨a, vs, h1, SqT.of h2, h3⟩
  | _ => cases e
theorem itemsOf_rep {K : PySem.W.Frag} {F : Hp} {m : List Addr} {d : D} {v : V} {xs : List D} (h : Rep K F m d v) (e : itemsOf d = some xs) : ∃ a vs, v = .ref a ∧ (SqL K F a vs ∨ SqT K F a vs) ∧ Reps K F m xs vs := by
  cases d with
  | tup ys =>
    obtain ⟨a, vs, h1, h2, h3⟩ := tupOf_rep h (xs := xs) e
    exact ⟨a, vs, h1, .inr h2, h3⟩
  | lst ys =>
    obtain ⟨a, vs, h1, h2, h3⟩ := listOf_rep h (xs := xs) e
    exact ⟨a, vs, h1, .inl h2, h3⟩
  | scr ns =>
    obtain ⟨a, vs, h1, h2, h3⟩ := listOf_rep h (xs := xs) e
    exact ⟨a, vs, h1, .inl h2, h3⟩
  | _ => cases e
/-- over a list or a tuple, whichever it is -/
def iAny (K : PySem.W.Frag) (tl : TE) : TI := fun σ H R => tl σ H fun x H1 => ∃ a, x = .ref a ∧ (((∃ xs, SqL K H1 a xs) ∧ R (Itl K a) H1) ∨ ((∃ xs, SqT K H1 a xs) ∧ R (Itt K a) H1))
theorem pi_any {tg l : Expr} {tl : TE} (hl : PE X l tl) : PI X tg l (iAny X.K tl) := by
  constructor
  intro pins s σ H R I h
  refine thn (hl.run pins s σ H _ I h) fun v s1 hx => ?_
  obtain ⟨x, H1, I1, r1, a, rfl, hq⟩ := hx
  cases r1
  have fresh : ∀ b ∈ [s1.heap.objs.size], FpOk X pins H1 b := fun b hb => by
    rw [List.mem_singleton.mp hb]
    exact I1.fpOk (Nat.le_refl _) (I1.hok.fresh (Nat.le_refl _))
  rcases hq with ⟨⟨xs, hq⟩, q⟩ | ⟨⟨xs, hq⟩, q⟩
  · obtain ⟨its, _, pl, _⟩ := I1.list hq
    refine wpAny_pyIter_list pl.isList ⟨_, _, _, _, H1, rfl, ?_, turn_list a _, ⟨_, Heap.get?_push_size _ rfl, rfl, rfl⟩, fresh, q⟩
    exact I1.kept (t' := s1.toks) fun b o e => Heap.get?_push_of_some _ e
  · obtain ⟨its, _, pt, _⟩ := I1.tuple hq
    refine wpAny_pyIter_tuple (show s1.heap.IsTuple a its.toArray from pt) ⟨_, _, _, _, H1, rfl, ?_, turn_tuple a _, ⟨_, Heap.get?_push_size _ rfl, rfl, rfl⟩, fresh, q⟩
    exact I1.kept (t' := s1.toks) fun b o e => Heap.get?_push_of_some _ e
theorem PIw {tg e : Expr} {t t' : TI} (h : PI X tg e t) (w : ∀ s H R, t' s H R → t s H R) : PI X tg e t' := ⟨fun pins s σ H R I q => h.run pins s σ H R I (w _ _ _ q)⟩
/-- what a source asks, from a plain function -/
theorem stepI {α β : Type} {K : PySem.W.Frag} {F : Hp} {m : List Addr} {st : Sto} {H : Hp} {rel : Hp → List Addr → α → β → Prop} {f : DX α} {g : α → Sto → O (List D)} {r : Env} {s : St} {R : It → Hp → Prop} {T : β → Hp → Prop}
    (w : Wd K L F m st H) (hr : RepSt K P F m r s) (h : ((f r st).bind g).sat (fun ds st' => ∀ F' m' H' J, Ext F m H F' m' H' → Wd K L F' m' st' H' → Yields K L J F' m' ds → R J H') (exE K L W F m H s))
    (k : ∀ a st1 F1 m1 H1 x, Ext F m H F1 m1 H1 → Wd K L F1 m1 st1 H1 → RepSt K P F1 m1 r s → rel F1 m1 a x → (g a st1).sat (fun ds st' => ∀ F' m' H' J, Ext F1 m1 H1 F' m' H' → Wd K L F' m' st' H' → Yields K L J F' m' ds → R J H') (exE K L W F1 m1 H1 s) → T x H1) : cG K L W P rel f s H T :=
  step w hr h fun a st1 F1 m1 H1 x e w1 r1 ra q => k a st1 F1 m1 H1 x e w1 r1 ra (q.imp (fun _ _ z F' m' H' J e' => z F' m' H' J (e.trans e')) fun _ _ z => z)
theorem d_items {tg l : Expr} (hl : PE X l (cE X.K L W P f)) : PI X tg l (cI X.K L W P (itemsI f)) := by
  refine PIw (pi_any hl) fun s H R ⟨F, m, st, rr, w, hr, q⟩ => ?_
  refine stepI w hr q fun d st1 F1 m1 H1 v _ w1 r1 rd q1 => ?_
  obtain ⟨xs, ex, q1⟩ := ofOpt_sat q1
  obtain ⟨a, vs, rfl, hq, rxs⟩ := itemsOf_rep rd ex
  refine ⟨a, rfl, ?_⟩
  rcases hq with hq | hq
  · exact .inl ⟨⟨vs, SqL.sub w1.sub hq⟩, q1 F1 m1 H1 _ .refl w1 (yields_list hq rxs)⟩
  · exact .inr ⟨⟨vs, SqT.sub w1.sub hq⟩, q1 F1 m1 H1 _ .refl w1 (yields_tup hq rxs)⟩
theorem d_range1 {tg e : Expr} (h : PI X tg e (iRng1 (cA X.K L W P fl))) : PI X tg e (cI X.K L W P (range1I fl)) := by
  refine PIw h fun s H R ⟨F, m, st, rr, w, hr, q⟩ => ?_
  refine stepI w hr q fun ds st1 F1 m1 H1 vs _ w1 r1 rd q1 => ?_
  split at q1
  · rename_i n
    simp only [Reps, Rep] at rd
    obtain ⟨v, _, rfl, rfl, rfl⟩ := rd
    obtain ⟨xs, ex, q1⟩ := ofOpt_sat q1
    unfold rng1 at ex
    by_cases hb : -(2 ^ 62) ≤ n ∧ n < 2 ^ 62
    · rw [if_pos hb] at ex
      cases ex
      exact ⟨n, rfl, hb.1, hb.2, q1 F1 m1 H1 _ .refl w1 (yields_range 0 n.toNat)⟩
    · rw [if_neg hb] at ex; cases ex
  · exact q1.elim
theorem d_range2 {tg e : Expr} (h : PI X tg e (iRng2 (cA X.K L W P fl))) : PI X tg e (cI X.K L W P (range2I fl)) := by
  refine PIw h fun s H R ⟨F, m, st, rr, w, hr, q⟩ => ?_
  refine stepI w hr q fun ds st1 F1 m1 H1 vs _ w1 r1 rd q1 => ?_
  split at q1
  · rename_i i j
    simp only [Reps, Rep] at rd
    obtain ⟨v, _, rfl, rfl, u, _, rfl, rfl, rfl⟩ := rd
    obtain ⟨xs, ex, q1⟩ := ofOpt_sat q1
    unfold rng2 at ex
    by_cases hb : -(2 ^ 62) ≤ i ∧ i < 2 ^ 62 ∧ -(2 ^ 62) ≤ j ∧ j < 2 ^ 62
    · rw [if_pos hb] at ex
      cases ex
      exact ⟨i, j, rfl, hb, q1 F1 m1 H1 _ .refl w1 (yields_range i (j - i).toNat)⟩
    · rw [if_neg hb] at ex; cases ex
  · exact q1.elim
def iEnumA (K : PySem.W.Frag) (ta : TA) : TI := fun σ H R => ta σ H fun vs H1 => ∃ a xs, vs = [.ref a] ∧ ((SqL K H1 a xs ∧ R (Ite K a) H1) ∨ (SqT K H1 a xs ∧ R (IteT K a) H1))
theorem pi_enumA {e : Expr} {ta : TA} {p tpos : Pos} {elts : List Expr} {kk : Nat} (hg : Gl X "enumerate") (hm : X.mg "enumerate" = none) (ha : PA X [e] ta) (hs : starEach [e] X.env = [(false, eval e X.env)] := by rfl) :
    PI X (.Tuple elts kk tpos) (.Call (.Name "enumerate" p) [e] [] pos) (iEnumA X.K ta) := by
  constructor
  intro pins s σ H R I h
  refine PyProof.Rows.Call_ (ld_blt I hg hm PyProof.Rows.boot_enumerate (PyProof.Rows.callWith_type1 (thn (ha.run pos pins s σ H _ I h) fun us s1 hx => ?_) hs rfl))
  obtain ⟨vs, H1, I1, r1, a, xs, rfl, hq⟩ := hx
  cases r1 with
  | cons r rr =>
    cases rr
    cases r
    have fresh : ∀ b ∈ [s1.heap.objs.size + 1, s1.heap.objs.size], FpOk X pins H1 b := fun b hb => by
      have hle : s1.heap.objs.size ≤ b := by
        rcases (by simpa using hb : b = s1.heap.objs.size + 1 ∨ b = s1.heap.objs.size) with rfl | rfl
        · exact Nat.le_add_right _ _
        · exact Nat.le_refl _
      exact I1.fpOk hle (I1.hok.fresh hle)
    rcases hq with ⟨hq, q⟩ | ⟨hq, q⟩
    · obtain ⟨its, _, pl, _⟩ := I1.list hq
      refine call_enumerate_list pl.isList fun h' he hit hsz hk => wpAny_pyIter_enum he ?_
      exact ⟨_, _, _, _, H1, rfl, I1.kept (t' := s1.toks) hk, turn_enum a (s1.heap.objs.size + 1) s1.heap.objs.size, ⟨⟨.none, he⟩, hit, Nat.succ_ne_self _⟩, fresh, q⟩
    · obtain ⟨its, _, pt, _⟩ := I1.tuple hq
      have al : a < s1.heap.objs.size := pt.lt
      refine DLE.call_enumT (show s1.heap.IsTuple a its.toArray from pt) fun h' he hit hk => wpAny_pyIter_enum he ?_
      exact ⟨_, _, _, _, H1, rfl, I1.kept (t' := s1.toks) hk, turn_enumT a (s1.heap.objs.size + 1) s1.heap.objs.size its.toArray (Nat.ne_of_lt al) (Nat.ne_of_lt (Nat.lt_succ_of_lt al)), ⟨⟨.none, he⟩, hit, Nat.succ_ne_self _, Nat.ne_of_gt (Nat.lt_succ_of_lt al)⟩, fresh, q⟩
theorem d_enum {tg e : Expr} (h : PI X tg e (iEnumA X.K (cA X.K L W P fl))) : PI X tg e (cI X.K L W P (enumI fl)) := by
  refine PIw h fun s H R ⟨F, m, st, rr, w, hr, q⟩ => ?_
  refine stepI w hr q fun ds st1 F1 m1 H1 vs _ w1 r1 rd q1 => ?_
  match ds, rd, q1 with
  | [d], rd, q1 =>
    simp only [Reps] at rd
    obtain ⟨v, _, rfl, rv, rfl⟩ := rd
    obtain ⟨ys, ey, q1⟩ := ofOpt_sat q1
    cases ei : itemsOf d with
    | none => rw [ei] at ey; cases ey
    | some xs =>
      rw [ei] at ey
      cases ey
      obtain ⟨a, vs, rfl, hq, rxs⟩ := itemsOf_rep rv ei
      refine ⟨a, vs, rfl, ?_⟩
      rcases hq with hq | hq
      · exact .inl ⟨SqL.sub w1.sub hq, q1 F1 m1 H1 _ .refl w1 (yields_enumL hq rxs)⟩
      · exact .inr ⟨SqT.sub w1.sub hq, q1 F1 m1 H1 _ .refl w1 (yields_enumT hq rxs)⟩
theorem d_zip {tg e : Expr} (h : PI X tg e (RZ.iZipA X.K (cA X.K L W P fl))) : PI X tg e (cI X.K L W P (zipI fl)) := by
  refine PIw h fun s H R ⟨F, m, st, rr, w, hr, q⟩ => ?_
  refine stepI w hr q fun ds st1 F1 m1 H1 vs _ w1 r1 rd q1 => ?_
  match ds, rd, q1 with
  | [x, y], rd, q1 =>
    simp only [Reps] at rd
    obtain ⟨v, _, rfl, rv, u, _, rfl, ru, rfl⟩ := rd
    obtain ⟨ys, ey, q1⟩ := ofOpt_sat q1
    have key : (∃ a b, tupOf x = some a ∧ tupOf y = some b ∧ ys = zipD a b) ∨ (∃ a b, listOf x = some a ∧ listOf y = some b ∧ ys = zipD a b) := by
      unfold zip2 at ey
      split at ey
      · rename_i a b h1 h2
        cases ey
        exact .inl ⟨a, b, h1, h2, rfl⟩
      · split at ey
        · rename_i a b h1 h2
          cases ey
          exact .inr ⟨a, b, h1, h2, rfl⟩
        · cases ey
    rcases key with ⟨a, b, h1, h2, rfl⟩ | ⟨a, b, h1, h2, rfl⟩
    · obtain ⟨pa, va, rfl, ha, ra⟩ := tupOf_rep rv h1
      obtain ⟨pb, vb, rfl, hb, rb⟩ := tupOf_rep ru h2
      exact ⟨pa, pb, va, vb, rfl, .inr ⟨SqT.sub w1.sub ha, SqT.sub w1.sub hb, q1 F1 m1 H1 _ .refl w1 (yields_zipT ha hb ra rb)⟩⟩
    · obtain ⟨pa, va, rfl, ha, ra⟩ := listOf_rep rv h1
      obtain ⟨pb, vb, rfl, hb, rb⟩ := listOf_rep ru h2
      exact ⟨pa, pb, va, vb, rfl, .inl ⟨SqL.sub w1.sub ha, SqL.sub w1.sub hb, q1 F1 m1 H1 _ .refl w1 (yields_zipL ha hb ra rb)⟩⟩

/-! ### comprehensions -/
def noEx {α : Type} (o : O α) : O α :=
  match o with
  | .exc _ _ => .bad
  | o => o
theorem noEx_sat {α : Type} {o : O α} {Q : α → Sto → Prop} {E E' : Ex → Sto → Prop} (h : (noEx o).sat Q E) : o.sat Q E' := by
  cases o with
  | val a st => exact h
  | exc e st => exact h.elim
  | bad => exact h
/-- the target of a comprehension: a name, or a pair of names -/
def slot1 (i : Nat) : D → Env → Option Env := fun d r => some (r.set i (some d))
def slot2 (i j : Nat) : D → Env → Option Env := fun d r =>
  match d with
  | .tup [x, y] => some ((r.set i (some x)).set j (some y))
  | _ => none
def lcL (sl : D → Env → Option Env) (ft : DX Bool) (fe : DX D) (r0 : Env) : List D → List D → Sto → O (List D)
  | [], acc, st => .val acc st
  | d :: ds, acc, st =>
    match sl d r0 with
    | none => .bad
    | some r1 => (noEx (ft r1 st)).bind fun k st1 => if k = true then (noEx (fe r1 st1)).bind fun y st2 => lcL sl ft fe r0 ds (acc ++ [y]) st2 else lcL sl ft fe r0 ds acc st1
def wipeD (r : Env) : List Nat → Env
  | [] => r
  | v :: vs => (wipeD r vs).set v none
def lcE (fi : DX (List D)) (sl : D → Env → Option Env) (vs : List Nat) (ft : DX Bool) (fe : DX D) : DX D := fun r st => (fi r st).bind fun ds st1 =>
  if big ds.length = true then (lcL sl ft fe (wipeD r vs) ds [] st1).bind fun xs st2 => .val (.lst xs) st2 else .bad
/-- the same, the list one that will be changed -/
def lcS (fi : DX (List D)) (sl : D → Env → Option Env) (vs : List Nat) (ft : DX Bool) (fe : DX D) : DX D := fun r st => (fi r st).bind fun ds st1 =>
  if big ds.length = true then (lcL sl ft fe (wipeD r vs) ds [] st1).bind fun xs st2 => .val (.ref st2.length) (st2 ++ [.lst xs]) else .bad
def yesT : DX Bool := fun _ st => .val true st
def TgOk (K : PySem.W.Frag) (L : Str → Addr) (P : Option XP) (G : TG) (sl : D → Env → Option Env) (vs : List Nat) : Prop :=
  ∀ F m st H d v r s r1 (Q : St → Hp → Prop), Wd K L F m st H → Rep K F m d v → RepSt K P F m r (wipe s vs) → sl d r = some r1 → (∀ s2, RepSt K P F m r1 s2 → wipe s2 vs = wipe s vs → Q s2 H) → G v (wipe s vs) H Q
end
end DL
set_option Elab.async false
set_option linter.all false
set_option maxRecDepth 100000
set_option autoImplicit false
namespace DL
open PySem PySem.Spec L2
section
variable {X : Cx} {L : Str → Addr} {W : WX} {P : Option XP} {f fa fb fe : DX D} {fl fi : DX (List D)} {ft : DX Bool} {pos : Pos}
theorem Reps.app {K : PySem.W.Frag} {F : Hp} {m : List Addr} {d : D} {v : V} (h : Rep K F m d v) : ∀ {xs : List D} {vs : List V}, Reps K F m xs vs → Reps K F m (xs ++ [d]) (vs ++ [v])
  | [], _, e => by simp only [Reps] at e; subst e; exact ⟨v, [], rfl, h, rfl⟩
  | x :: xs, _, e => by
    simp only [Reps] at e
    obtain ⟨u, r, rfl, p, q⟩ := e
    exact ⟨u, r ++ [v], rfl, p, Reps.app h q⟩
theorem wipe_set (s : St) (i : Nat) (v : V) : wipe ((wipe s [i]).set i (some v)) [i] = wipe s [i] := by
  unfold wipe
  simp [wipe]
theorem tg_name (K : PySem.W.Frag) {i : Nat} (hP : free P i) : TgOk K L P (gName i) (slot1 i) [i] := by
  intro F m st H d v r s r1 Q w rv hr e h
  cases e
  exact h _ (hr.set rv hP) (wipe_set s i v)
theorem wipe_set2 (s : St) (i j : Nat) (v u : V) : wipe (((wipe s [i, j]).set i (some v)).set j (some u)) [i, j] = wipe s [i, j] := by
  apply List.ext_getElem?
  intro k
  simp only [wipe, List.getElem?_set, List.length_set]
  split <;> split <;> simp_all
theorem tg_pair (K : PySem.W.Frag) {i j : Nat} (hi : free P i) (hj : free P j) : TgOk K L P (gTup K 2 (gCons (gName i) (gCons (gName j) gNil))) (slot2 i j) [i, j] := by
  intro F m st H d v r s r1 Q w rv hr e h
  unfold slot2 at e
  split at e
  · rename_i x y
    cases e
    obtain ⟨a, vs, rfl, ha, rs⟩ := rv
    simp only [Reps] at rs
    obtain ⟨p, _, rfl, rp, q, _, rfl, rq, rfl⟩ := rs
    refine ⟨a, [p, q], rfl, SqT.sub w.sub (SqT.of ha), rfl, p, [q], rfl, q, [], rfl, rfl, ?_⟩
    exact h _ ((hr.set rp hi).set rq hj) (wipe_set2 s i j p q)
  · cases e
theorem RepSt.wipe {K : PySem.W.Frag} {F : Hp} {m : List Addr} {r : Env} {s : St} (h : RepSt K P F m r s) : ∀ {vs : List Nat}, (∀ i ∈ vs, free P i) → RepSt K P F m (wipeD r vs) (wipe s vs)
  | [], _ => h
  | v :: vs, hv => (RepSt.wipe h (vs := vs) fun i hi => hv i (List.mem_cons_of_mem _ hi)).unset v (hv v List.mem_cons_self)
theorem Ext.over {F F' H H' : Hp} {m m' : List Addr} {p : Addr} {o : HO} (x : Ext F m H F' m' H') (hp : H p = none) : Ext F m H F' m' (upd H' p o) where
  ef := x.ef
  em := x.em
  ek := fun a u h hn => by rw [upd_ne (by rintro rfl; rw [hp] at h; cases h)]; exact x.ek a u h hn
  en := x.en
  eg := x.eg
/-- the state within a comprehension: the list so far stands at p, apart from all else -/
structure LcAt (K : PySem.W.Frag) (L : Str → Addr) (P : Option XP) (F1 : Hp) (m1 : List Addr) (H1 : Hp) (p : Addr) (r : Env) (s : St) (acc : List D) (st2 : Sto) (H2 : Hp) (F2 : Hp) (m2 : List Addr) (va : List V) : Prop where
  wd : Wd K L F2 m2 st2 H2
  rs : RepSt K P F2 m2 r s
  ex : Ext F1 m1 H1 F2 m2 H2
  at_ : H2 p = some (.lst va)
  ra : Reps K F2 m2 acc va
  nF : F2 p = none
  nm : p ∉ m2
theorem lc_core {K : PySem.W.Frag} {G : TG} {sl : D → Env → Option Env} {vs : List Nat} (hG : TgOk K L P G sl vs) (hvs : ∀ i ∈ vs, free P i) {F1 : Hp} {m1 : List Addr} {st1 : Sto} {H1 : Hp} {r : Env} {s : St} {ds : List D} {J : It} {p : Addr} {Qd : Hp → Prop} {Qf : List D → Sto → Prop} {E : Ex → Sto → Prop}
    (w1 : Wd K L F1 m1 st1 H1) (hr : RepSt K P F1 m1 r s) (hb : big ds.length = true) (hy : Yields K L J F1 m1 ds) (hp : H1 p = none) (q : (lcL sl ft fe (wipeD r vs) ds [] st1).sat Qf E)
    (fin : ∀ xs st2 H2 F2 m2 va, LcAt K L P F1 m1 H1 p (wipeD r vs) (wipe s vs) xs st2 H2 F2 m2 va → Qf xs st2 → Qd H2) :
    ∃ Wt : Nat → Nat → Hp → Prop, (∃ n, Wt 0 n (upd H1 p (.lst []))) ∧ ∀ i n H, Wt i n H →
      (J.stop i H ∧ Qd H) ∨ (J.go i H ∧ ∃ Nx : Hp → Prop, (∀ H', Nx H' → ∃ n', n' < n ∧ Wt (i + 1) n' H') ∧ ∀ x H', J.yld i H x H' → G x (L2.wipe s vs) H' fun s2 H2 => L2.wipe s2 vs = L2.wipe s vs ∧ cT K L (fun _ _ _ _ => False) P ft s2 H2 fun b H3 =>
        if b = true then cE K L (fun _ _ _ _ => False) P fe s2 H3 fun y H4 => ∃ acc, H4 p = some (.lst acc) ∧ acc.length < sizeLine ∧ Nx (upd H4 p (.lst (acc ++ [y]))) else Nx H3) := by
  have hF := w1.new_F hp
  have hm := w1.new_ne hp
  refine ⟨fun i n H => n = ds.length - i ∧ i ≤ ds.length ∧ ∃ acc st2 F2 m2 va, LcAt K L P F1 m1 H1 p (wipeD r vs) (wipe s vs) acc st2 H F2 m2 va ∧ acc.length ≤ i ∧ (lcL sl ft fe (wipeD r vs) (ds.drop i) acc st2).sat Qf E,
    ⟨_, rfl, Nat.zero_le _, [], st1, F1, m1, [], ⟨w1.other hF hm, hr.wipe hvs, Ext.over .refl hp, upd_same, rfl, hF, hm⟩, Nat.le_refl _, q⟩, ?_⟩
  rintro i n H ⟨rfl, hi, acc, st2, F2, m2, va, A, hl, q2⟩
  obtain ⟨hstop, hgo⟩ := hy F2 m2 st2 H A.ex.ef A.ex.em A.wd
  by_cases hlt : i < ds.length
  · obtain ⟨go, hyld⟩ := hgo i ds[i] (List.getElem?_eq_getElem hlt)
    refine .inr ⟨go, fun H' => ∃ acc st3 F3 m3 va, LcAt K L P F1 m1 H1 p (wipeD r vs) (wipe s vs) acc st3 H' F3 m3 va ∧ acc.length ≤ i + 1 ∧ (lcL sl ft fe (wipeD r vs) (ds.drop (i + 1)) acc st3).sat Qf E,
      fun H' z => ⟨ds.length - (i + 1), by omega, rfl, hlt, z⟩, fun x H' y => ?_⟩
    obtain ⟨F3, e3, w3, rx⟩ := hyld x H' y
    rw [drop_cons hlt] at q2
    unfold lcL at q2
    cases es : sl ds[i] (wipeD r vs) with
    | none => rw [es] at q2; exact q2.elim
    | some r1 =>
      rw [es] at q2
      refine hG F3 m2 st2 H' _ x _ s r1 _ w3 rx (A.rs.ext e3) es fun s2 hs2 hw2 => ⟨hw2, ?_⟩
      -- the list at p, through a step
      have keep : ∀ {F4 H4 : Hp} {m4 : List Addr}, Ext F2 m2 H F4 m4 H4 → H4 p = some (.lst va) ∧ Reps K F4 m4 acc va ∧ F4 p = none ∧ p ∉ m4 := fun {F4 H4 m4} e4 =>
        ⟨e4.ek p _ A.at_ A.nm, A.ra.ext e4, e4.eg p (by rw [A.at_]; simp) A.nm A.nF, e4.en p (by rw [A.at_]; simp) A.nm⟩
      have q3 := O.sat_bind q2
      refine ⟨F3, m2, st2, r1, w3, hs2, (noEx_sat (E' := exE K L (fun _ _ _ _ => False) F3 m2 H' s2) q3).imp (fun k st4 q4 F4 m4 H4 b e4 w4 rb => ?_) fun _ _ z => z⟩
      have rb : k = b := rb
      subst rb
      cases k with
      | false =>
        dsimp only at q4 ⊢
        rw [if_neg Bool.false_ne_true] at q4 ⊢
        obtain ⟨k1, k2, k3, k4⟩ := keep (e3.trans e4)
        exact ⟨acc, st4, F4, m4, va, ⟨w4, (A.rs.ext e3).ext e4, (A.ex.trans e3).trans e4, k1, k2, k3, k4⟩, by omega, q4⟩
      | true =>
        dsimp only at q4 ⊢
        rw [if_pos rfl] at q4 ⊢
        have q5 := O.sat_bind q4
        refine ⟨F4, m4, st4, r1, w4, hs2.ext e4, (noEx_sat (E' := exE K L (fun _ _ _ _ => False) F4 m4 H4 s2) q5).imp (fun y st5 q6 F5 m5 H5 v e5 w5 rv => ?_) fun _ _ z => z⟩
        obtain ⟨k1, k2, k3, k4⟩ := keep ((e3.trans e4).trans e5)
        have bl : ds.length ≤ 1000000 := of_decide_eq_true hb
        refine ⟨va, k1, by rw [Reps.length k2, sizeLine_eq]; omega, acc ++ [y], st5, F5, m5, va ++ [v], ⟨w5.other k3 k4, ((A.rs.ext e3).ext e4).ext e5, Ext.over (((A.ex.trans e3).trans e4).trans e5) hp, upd_same, ?_, k3, k4⟩, by simp; omega, q6⟩
        exact Reps.app rv k2
  · have ei : i = ds.length := by omega
    subst ei
    rw [List.drop_length] at q2
    exact .inl ⟨hstop, fin acc st2 H F2 m2 va A q2⟩
/-- at a comprehension's end its list is frozen -/
theorem lc_froze {K : PySem.W.Frag} {F1 : Hp} {m1 : List Addr} {H1 : Hp} {p : Addr} {r : Env} {s : St} {xs : List D} {st2 : Sto} {H2 F2 : Hp} {m2 : List Addr} {va : List V} {Q : VK} (hp : H1 p = none) (A : LcAt K L P F1 m1 H1 p r s xs st2 H2 F2 m2 va) (q : okG K L F1 m1 H1 (relE K) Q (.lst xs) st2) : Q (.ref p) H2 := by
  refine q (upd F2 p (.lst va)) m2 H2 (.ref p) ⟨fun a o h => upd_sub A.nF a o (A.ex.ef a o h), A.ex.em, A.ex.ek, A.ex.en, fun a h hn e => ?_⟩ (A.wd.freeze A.at_ A.nm A.nF) ⟨p, va, rfl, upd_same, Reps.mono (upd_sub A.nF) ⟨[], by simp⟩ _ _ A.ra⟩
  rw [upd_ne (by rintro rfl; exact h hp)]
  exact A.ex.eg a h hn e
theorem Wd.adopt {K : PySem.W.Frag} {F : Hp} {m : List Addr} {st : Sto} {H : Hp} {p : Addr} {o : SO} {h : HO} (w : Wd K L F m st H) (hp : H p = some h) (hm : p ∉ m) (hF : F p = none) (r : RepO K L F (m ++ [p]) o h) : Wd K L F (m ++ [p]) (st ++ [o]) H := by
  refine ⟨w.sub, by simp [w.len], ?_, fun a q => ?_, fun i b q => ?_⟩
  · rw [List.nodup_append]
    refine ⟨w.nd, by simp, fun a ha b hb => ?_⟩
    rintro rfl
    exact hm (by rw [List.mem_singleton.mp hb] at ha; exact ha)
  · rcases List.mem_append.mp q with q | q
    · exact w.off a q
    · rw [List.mem_singleton.mp q]; exact hF
  · by_cases hi : i < m.length
    · rw [List.getElem?_append_left hi] at q
      obtain ⟨o', h', e1, e2, e3⟩ := w.at_ i b q
      exact ⟨o', h', by rw [List.getElem?_append_left (by rw [← w.len]; exact hi)]; exact e1, e2, e3.mono (fun _ _ z => z) ⟨[p], rfl⟩⟩
    · rw [List.getElem?_append_right (by omega)] at q
      have e0 : i - m.length = 0 := by
        have := (List.getElem?_eq_some_iff.mp q).1
        simp at this; omega
      rw [e0] at q
      have eb : p = b := by simpa using q
      subst eb
      exact ⟨o, h, by rw [List.getElem?_append_right (by rw [← w.len]; omega), ← w.len, e0]; rfl, hp, r⟩
theorem lc_store {K : PySem.W.Frag} {F1 : Hp} {m1 : List Addr} {H1 : Hp} {p : Addr} {r : Env} {s : St} {xs : List D} {st2 : Sto} {H2 F2 : Hp} {m2 : List Addr} {va : List V} {Q : VK} (hp : H1 p = none) (A : LcAt K L P F1 m1 H1 p r s xs st2 H2 F2 m2 va) (q : okG K L F1 m1 H1 (relE K) Q (.ref st2.length) (st2 ++ [.lst xs])) : Q (.ref p) H2 := by
  refine q F2 (m2 ++ [p]) H2 (.ref p) ⟨A.ex.ef, ?_, A.ex.ek, fun a h hn z => ?_, A.ex.eg⟩ (A.wd.adopt (o := .lst xs) A.at_ A.nm A.nF ⟨va, rfl, Reps.mono (fun _ _ z => z) ⟨[p], rfl⟩ _ _ A.ra⟩) ⟨p, rfl, ?_⟩
  · obtain ⟨x, e⟩ := A.ex.em
    exact ⟨x ++ [p], by rw [e, List.append_assoc]⟩
  · rcases List.mem_append.mp z with z | z
    · exact A.ex.en a h hn z
    · rw [List.mem_singleton.mp z] at h; exact h hp
  · rw [← A.wd.len, List.getElem?_append_right (Nat.le_refl _), Nat.sub_self]; rfl
theorem lc_of {K : PySem.W.Frag} {G : TG} {sl : D → Env → Option Env} {vs : List Nat} (hG : TgOk K L P G sl vs) (hvs : ∀ i ∈ vs, free P i) {s : St} {H : Hp} {Q : VK} (h : cE K L W P (lcE fi sl vs ft fe) s H Q) :
    tLc (cI K L W P fi) G (cT K L (fun _ _ _ _ => False) P ft) (cE K L (fun _ _ _ _ => False) P fe) vs s H Q := by
  obtain ⟨F, m, st, rr, w, hr, q⟩ := h
  refine ⟨F, m, st, rr, w, hr, (O.sat_bind q).imp (fun ds st1 q1 F1 m1 H1 J e1 w1 hy p hp => ?_) fun _ _ z => z⟩
  by_cases hb : big ds.length = true
  · rw [if_pos hb] at q1
    exact lc_core hG hvs w1 (hr.ext e1) hb hy hp (O.sat_bind q1) fun xs st2 H2 F2 m2 va A qf => lc_froze hp A (okG.ext e1 qf)
  · rw [if_neg hb] at q1; exact q1.elim
theorem lcS_of {K : PySem.W.Frag} {G : TG} {sl : D → Env → Option Env} {vs : List Nat} (hG : TgOk K L P G sl vs) (hvs : ∀ i ∈ vs, free P i) {s : St} {H : Hp} {Q : VK} (h : cE K L W P (lcS fi sl vs ft fe) s H Q) :
    tLc (cI K L W P fi) G (cT K L (fun _ _ _ _ => False) P ft) (cE K L (fun _ _ _ _ => False) P fe) vs s H Q := by
  obtain ⟨F, m, st, rr, w, hr, q⟩ := h
  refine ⟨F, m, st, rr, w, hr, (O.sat_bind q).imp (fun ds st1 q1 F1 m1 H1 J e1 w1 hy p hp => ?_) fun _ _ z => z⟩
  by_cases hb : big ds.length = true
  · rw [if_pos hb] at q1
    exact lc_core hG hvs w1 (hr.ext e1) hb hy hp (O.sat_bind q1) fun xs st2 H2 F2 m2 va A qf => lc_store hp A (okG.ext e1 qf)
  · rw [if_neg hb] at q1; exact q1.elim
theorem d_yes {Y : Cx} : PTs Y [] (cT Y.K L W P yesT) := by
  refine ⟨fun pins s σ H Q I ⟨F, m, st, rr, w, hr, q⟩ => ?_⟩
  exact pts_nil.run pins s σ H Q I (q F m H true .refl w rfl)
theorem d_lc {elt tg iter : Expr} {ifs : List Expr} {scope : Scope} {own : List (Str × Nat)} {sl : D → Env → Option Env} {G : TG} (hc : X.calm = true) (hN : X.N.Nodup) (hi : PI X tg iter (cI X.K L W P fi)) (ok : BlkOk X.N X.env.scope scope own)
    (hG : TgOk X.K L P G sl (own.map (·.2))) (hvs : ∀ i ∈ own.map (·.2), free P i)
    (hg : ∀ (s : Shared) (H : Hp) (C : Addr) (cl : List (Str × Addr)) (fp : List Addr), PG (X.blk s H scope (compEnvC scope cl C X.env) fp) tg G)
    (ht : ∀ (s : Shared) (H : Hp) (C : Addr) (cl : List (Str × Addr)) (fp : List Addr), PTs (X.blk s H scope (compEnvC scope cl C X.env) fp) ifs (cT X.K L (fun _ _ _ _ => False) P ft))
    (he : ∀ (s : Shared) (H : Hp) (C : Addr) (cl : List (Str × Addr)) (fp : List Addr), PE (X.blk s H scope (compEnvC scope cl C X.env) fp) elt (cE X.K L (fun _ _ _ _ => False) P fe)) (hs : ∀ x, foldedSetIterable iter X.env x = pure x := by intro _; rfl) :
    PE X (.ListComp elt [⟨tg, iter, ifs, 0⟩] scope pos) (cE X.K L W P (lcE fi sl (own.map (·.2)) ft fe)) :=
  PEw (pe_lc hc hN hi ok hg ht he hs) fun _ _ _ h => lc_of hG hvs h
theorem d_lcS {elt tg iter : Expr} {ifs : List Expr} {scope : Scope} {own : List (Str × Nat)} {sl : D → Env → Option Env} {G : TG} (hc : X.calm = true) (hN : X.N.Nodup) (hi : PI X tg iter (cI X.K L W P fi)) (ok : BlkOk X.N X.env.scope scope own)
    (hG : TgOk X.K L P G sl (own.map (·.2))) (hvs : ∀ i ∈ own.map (·.2), free P i)
    (hg : ∀ (s : Shared) (H : Hp) (C : Addr) (cl : List (Str × Addr)) (fp : List Addr), PG (X.blk s H scope (compEnvC scope cl C X.env) fp) tg G)
    (ht : ∀ (s : Shared) (H : Hp) (C : Addr) (cl : List (Str × Addr)) (fp : List Addr), PTs (X.blk s H scope (compEnvC scope cl C X.env) fp) ifs (cT X.K L (fun _ _ _ _ => False) P ft))
    (he : ∀ (s : Shared) (H : Hp) (C : Addr) (cl : List (Str × Addr)) (fp : List Addr), PE (X.blk s H scope (compEnvC scope cl C X.env) fp) elt (cE X.K L (fun _ _ _ _ => False) P fe)) (hs : ∀ x, foldedSetIterable iter X.env x = pure x := by intro _; rfl) :
    PE X (.ListComp elt [⟨tg, iter, ifs, 0⟩] scope pos) (cE X.K L W P (lcS fi sl (own.map (·.2)) ft fe)) :=
  PEw (pe_lc hc hN hi ok hg ht he hs) fun _ _ _ h => lcS_of hG hvs h
/-- y = [..] -/
theorem d_setLc {st : Stmt} {i : Nat} {sl : D → Env → Option Env} {G : TG} {vs : List Nat} (h : PS X st (tAsg (tLc (cI X.K L W P fi) G (cT X.K L (fun _ _ _ _ => False) P ft) (cE X.K L (fun _ _ _ _ => False) P fe) vs) (gName i))) (hG : TgOk X.K L P G sl vs) (hvs : ∀ i ∈ vs, free P i) (hP : free P i) :
    PS X st (cS X.K L W P (asgS (lcE fi sl vs ft fe) (nameG i))) := by
  refine PSw h fun Dn s H q => ?_
  obtain ⟨F, m, st, rr, w, hr, q⟩ := asg_of q
  refine lc_of hG hvs ⟨F, m, st, rr, w, hr, q.imp (fun d st1 z F1 m1 H1 v e w1 rv => name_of hP (z F1 m1 H1 v e w1 rv)) fun _ _ z => z⟩
theorem d_setLcS {st : Stmt} {i : Nat} {sl : D → Env → Option Env} {G : TG} {vs : List Nat} (h : PS X st (tAsg (tLc (cI X.K L W P fi) G (cT X.K L (fun _ _ _ _ => False) P ft) (cE X.K L (fun _ _ _ _ => False) P fe) vs) (gName i))) (hG : TgOk X.K L P G sl vs) (hvs : ∀ i ∈ vs, free P i) (hP : free P i) :
    PS X st (cS X.K L W P (asgS (lcS fi sl vs ft fe) (nameG i))) := by
  refine PSw h fun Dn s H q => ?_
  obtain ⟨F, m, st, rr, w, hr, q⟩ := asg_of q
  refine lcS_of hG hvs ⟨F, m, st, rr, w, hr, q.imp (fun d st1 z F1 m1 H1 v e w1 rv => name_of hP (z F1 m1 H1 v e w1 rv)) fun _ _ z => z⟩
end
end DL
set_option Elab.async false
set_option linter.all false
set_option maxRecDepth 100000
set_option autoImplicit false
namespace DL
open PySem PySem.Spec L2
/-! ### what a def promises -/
/-- the promise of the plain function den, of n parameters -/
def spD (K : PySem.W.Frag) (L : Str → Addr) (n : Nat) (den : List D → Sto → O D) : Sp := fun vs H Q E => vs.length = n ∧ ∃ F m st ds, Wd K L F m st H ∧ Reps K F m ds vs ∧
  (den ds st).sat (okG K L F m H (relE K) Q) (fun e st' => ∀ F' m' H' d, Ext F m H F' m' H' → Wd K L F' m' st' H' → RepX K F' m' e d → E (.ref (L e.cls)) d H')
/-- a def that keeps a promise wherever nothing guards the stack -/
structure FnG (P : Program) (w : PySem.World) (K : PySem.W.Frag) (mg : Str → Option Value) (base : Heap) (k : Nat) (f : Addr) (fd : FuncData) (ps : List Str) (sp : Sp) : Prop where
  len : ∀ vs H Q E, sp vs H Q E → vs.length = ps.length
  run : ∀ (A : Around) (outer : List PySem.Env) (s : Shared) (H : Hp) (args : Args) (us : List Value) (vs : List V) (Q : VK) (E : XK), Room k A → A.guards = some [] → Env0 P w K mg base A outer s H → BindsTo s fd args (ps.zip us) → Vals vs us → sp vs H Q E →
    codeAny (model P w) A (.call (.ref f) args) (CR (L2.CX P w) outer P w H s Q E) s
section
variable {P : Program} {w : PySem.World} {K : PySem.W.Frag} {mg : Str → Option Value} {base : Heap}
theorem FnG.imp {k : Nat} {f : Addr} {fd : FuncData} {ps : List Str} {sp sp' : Sp} (F : FnG P w K mg base k f fd ps sp) (h : ∀ vs H Q E, sp' vs H Q E → sp vs H Q E) : FnG P w K mg base k f fd ps sp' :=
  ⟨fun vs H Q E q => F.len vs H Q E (h _ _ _ _ q), fun A outer s H args us vs Q E hr hg he hb hv hs => F.run A outer s H args us vs Q E hr hg he hb hv (h _ _ _ _ hs)⟩
theorem FnG.mono {j k : Nat} {f : Addr} {fd : FuncData} {ps : List Str} {sp : Sp} (F : FnG P w K mg base j f fd ps sp) (h : j ≤ k) : FnG P w K mg base k f fd ps sp :=
  ⟨F.len, fun A outer s H args us vs Q E hr => F.run A outer s H args us vs Q E (hr.mono h)⟩
/-- a def, by its body -/
theorem fnG_of {x qual : Str} {st : Stmt} {f : Addr} {fd : FuncData} {N ps : List Str} {k : Nat} {sp : Sp} (F : Fun K x qual st f fd) (S : FnScope N ps (defScope st)) (len : ∀ vs H Q E, sp vs H Q E → vs.length = ps.length)
    (hbody : ∀ (cdv : Value) (A : Around) (outer : List PySem.Env) (s : Shared) (H : Hp) (vs : List V) (Q : VK) (E : XK), Room k (A.deeper (PyProof.Rows.envOfC qual (defScope st) s.heap.objs.size f cdv)) → (A.deeper (PyProof.Rows.envOfC qual (defScope st) s.heap.objs.size f cdv)).guards = some [] → sp vs H Q E →
      ∃ t, PSs (cxOf (L2.CX P w) P w K mg base N qual (defScope st) f cdv A outer s H E) (defBody st) t ∧ t { nx := fun _ H' => Q .non H', rt := Q } (L2.start N vs) H) : FnG P w K mg base (k + 1) f fd ps sp := by
  obtain ⟨oc, od, kV, doc, pm, an, cdv, ct, osl, rfl, lk, hcd⟩ := F.ex
  constructor
  · exact len
  intro A outer s H args us vs Q E hr hgd he hb hv hsp
  have KX : K.In s.heap := he.mod.kin.keeps fun b o z => (he.bs b o z).1
  have lim : s.heap.NoLimit := he.mod.nolimit.keeps fun b o z => (he.bs b o z).1
  have hk : ∀ y ∈ ps.zip us, (defScope st).names.lookup y.1 = some .local ∨ ((defScope st).names.lookup y.1 = some .cell ∧ ((cellsFrom (s.heap.objs.size + 1) (defScope st).names []).lookup y.1).isSome = true) := by
    intro y hy
    rcases S.par y.1 (List.of_mem_zip hy).1 with q | q
    · exact .inl q
    · exact .inr ⟨q, PySem.W.cellsFrom_some _ _ _ (.inl q)⟩
  refine codeAny_call_function hr.depth (KX _ _ lk) rfl S.co S.gen rfl (PySem.W.codeRec_of KX hcd) (hb _ _ _ _ ?_)
  refine wpAny_newFunctionEnv_cells S.kind hk fun env hev s1 x => ?_
  subst hev
  refine ⟨lim.keeps x.toInCall.keep, codeAny_func ?_⟩
  obtain ⟨t, ht, hq⟩ := hbody cdv A outer s H vs Q E (hr.deeper _) hgd hsp
  refine wpAny_mono (ht.run [] s1 (L2.start N vs) H _ (inv_start S hr.hd he (len _ _ _ _ hsp) hv x) hq) (fun fl s' z => ?_) fun _ _ z => z
  cases fl with
  | ret u => obtain ⟨v, σ', H', J, rv, q⟩ := z; exact ⟨v, H', J.os, J.bare, J.base, J.hok, rv, q⟩
  | next => obtain ⟨σ', H', J, q⟩ := z; exact ⟨V.non, H', J.os, J.bare, J.base, J.hok, rfl, q⟩
  | brk => obtain ⟨_, _, _, q⟩ := z; exact q.elim
  | cont => obtain ⟨_, _, _, q⟩ := z; exact q.elim
end

/-- a body's plain function as a def's -/
def runB (n : Nat) (b : DS) (ds : List D) (st : Sto) : O D :=
  match b (ds.map some ++ List.replicate (n - ds.length) none) st with
  | .rt d st' => .val d st'
  | .nx _ st' => .val .non st'
  | .exc e _ st' => .exc e st'
  | _ => .bad
theorem start_rep {K : PySem.W.Frag} {F : Hp} {m : List Addr} {ds : List D} {vs : List V} (r : Reps K F m ds vs) (N : List Str) : RepSt K none F m (ds.map some ++ List.replicate (N.length - ds.length) none) (L2.start N vs) := by
  have hl := Reps.length r
  refine ⟨by simp [L2.start, hl], fun i d e => ?_, fun p e => by cases e⟩
  by_cases hi : i < ds.length
  · rw [List.getElem?_append_left (by simpa using hi), List.getElem?_map] at e
    cases q : ds[i]? with
    | none => rw [q] at e; cases e
    | some d' =>
      rw [q] at e
      cases e
      obtain ⟨v, ev, rv⟩ := Reps.get r q
      refine ⟨v, ?_, rv⟩
      unfold L2.start
      rw [List.getElem?_append_left (by simp [hl]; exact hi), List.getElem?_map, ev]; rfl
  · rw [List.getElem?_append_right (by simpa using hi)] at e
    rw [List.getElem?_replicate] at e
    split at e <;> cases e
section
variable {P : Program} {w : PySem.World} {K : PySem.W.Frag} {mg : Str → Option Value} {base : Heap} {L : Str → Addr}
/-- THE RULE for a def: its body's plain function -/
theorem fnD {x qual : Str} {st : Stmt} {f : Addr} {fd : FuncData} {N ps : List Str} {k : Nat} {b : DS} (F : Fun K x qual st f fd) (S : FnScope N ps (defScope st))
    (hbody : ∀ (cdv : Value) (A : Around) (outer : List PySem.Env) (s : Shared) (H : Hp) (E : XK), Room k (A.deeper (PyProof.Rows.envOfC qual (defScope st) s.heap.objs.size f cdv)) → (A.deeper (PyProof.Rows.envOfC qual (defScope st) s.heap.objs.size f cdv)).guards = some [] →
      PSs (cxOf (L2.CX P w) P w K mg base N qual (defScope st) f cdv A outer s H E) (defBody st) (cS K L (fun cls d _ H => E cls d H) none b)) : FnG P w K mg base (k + 1) f fd ps (spD K L ps.length (runB N.length b)) := by
  refine fnG_of F S (fun vs H Q E h => h.1) fun cdv A outer s H vs Q E hr hg h => ⟨_, hbody cdv A outer s H E hr hg, ?_⟩
  obtain ⟨hl, F0, m, sto, ds, wd, r, q⟩ := h
  refine ⟨F0, m, sto, _, wd, start_rep r N, ?_⟩
  unfold runB at q
  cases e : b (ds.map some ++ List.replicate (N.length - ds.length) none) sto with
  | rt d st' => rw [e] at q; exact q
  | nx r' st' =>
    rw [e] at q
    exact fun F' m' H' s' e' w' _ => q F' m' H' .non e' w' rfl
  | exc x r' st' =>
    rw [e] at q
    exact fun F' m' H' s' d e' w' _ rx => q F' m' H' d e' w' rx
  | bk _ _ => rw [e] at q; exact q.elim
  | ct _ _ => rw [e] at q; exact q.elim
  | bad => rw [e] at q; exact q.elim
end

/-! ### calls of defs -/
section
variable {X : Cx} {L : Str → Addr} {W : WX} {P : Option XP} {fl : DX (List D)} {pos p : Pos}
theorem run_G {k n : Nat} {f : Addr} {fd : FuncData} {ps : List Str} {den : List D → Sto → O D} {pins : List (Addr × Obj)} {σ : St} {H : Hp} {s : Shared} {Q : VK} {us : List Value} {vs : List V} (F : FnG X.prog X.w X.K X.mg X.base k f fd ps (spD X.K L n den)) (hr : Room k X.A) (hgd : X.A.guards = some [])
    (hb : Binds X.K fd ps []) (tk : Takes X W) (I : Inv X pins σ H s) (r : Vals vs us) (h : spD X.K L n den vs H Q (fun cls d H => W cls d σ H)) : wpAny (model X.prog X.w) X.A (call (.ref f) us) (EP X pins σ Q) X.xe s := by
  have hl : us.length = ps.length := by rw [← r.length]; exact F.len _ _ _ _ h
  have b := hb s us I.kIn (by rw [List.append_nil]; exact hl)
  rw [List.append_nil] at b
  refine wpAny_call (codeAny_mono (F.run X.A X.stack s H ⟨us, []⟩ us vs Q _ hr hgd I.env0 b r h) fun rs s' z => ?_)
  cases rs with
  | error e => exact passAt tk σ pins H s e s' I z
  | ok fl =>
    cases fl with
    | ret u => exact I.after z
    | next => exact z.elim
    | brk => exact z.elim
    | cont => exact z.elim
/-- from a plain argument list to the promise -/
theorem prom_of {K : PySem.W.Frag} {n : Nat} {den : List D → Sto → O D} {σ : St} {H : Hp} {Q : VK} (hn : ∀ xs st Q' E', (den xs st).sat Q' E' → xs.length = n) (h : cE K L W P (callE den fl) σ H Q) :
    cA K L W P fl σ H fun vs H1 => spD K L n den vs H1 Q (fun cls d H => W cls d σ H) := by
  obtain ⟨F, m, st, rr, w, hr, q⟩ := h
  refine stepG w hr q fun xs st1 F1 m1 H1 vs _ w1 r1 rx q1 => ?_
  exact ⟨by rw [Reps.length rx]; exact hn _ _ _ _ q1, F1, m1, st1, xs, w1, rx, q1⟩
/-- a def called with so many things, else nothing is told -/
def arity (n : Nat) (den : List D → Sto → O D) : List D → Sto → O D := fun xs st => if xs.length = n then den xs st else .bad
theorem arity_len {n : Nat} {den : List D → Sto → O D} : ∀ xs st Q' E', (arity n den xs st).sat Q' E' → xs.length = n := fun xs st Q' E' h => by
  unfold arity at h
  by_cases e : xs.length = n
  · exact e
  · rw [if_neg e] at h; exact h.elim
theorem FnG.ar {Pr : Program} {w : PySem.World} {K : PySem.W.Frag} {mg : Str → Option Value} {base : Heap} {k n : Nat} {f : Addr} {fd : FuncData} {ps : List Str} {den : List D → Sto → O D} (F : FnG Pr w K mg base k f fd ps (spD K L n den)) : FnG Pr w K mg base k f fd ps (spD K L n (arity n den)) :=
  F.imp fun vs H Q E ⟨h1, F0, m, st, ds, wd, r, q⟩ => ⟨h1, F0, m, st, ds, wd, r, by
    have e : ds.length = n := by rw [← Reps.length r]; exact h1
    unfold arity at q
    rw [if_pos e] at q
    exact q⟩
theorem d_callG {k n : Nat} {f : Addr} {fd : FuncData} {ps : List Str} {den : List D → Sto → O D} {x : Str} {e : Expr} {es : List Expr} (F : FnG X.prog X.w X.K X.mg X.base k f fd ps (spD X.K L n den)) (hr : Room k X.A) (hgd : X.A.guards = some []) (hg : Gl X x) (hm : X.mg x = some (.ref f)) (hk : PySem.W.keepIn X.K (.ref f) = true)
    (hb : Binds X.K fd ps []) (tk : Takes X W) (ha : PA X (e :: es) (cA X.K L W P fl)) (hdb : (x == ("__debug__" : Str)) = false := by decide) (he : starEach (e :: es) X.env = (false, eval e X.env) :: starEach es X.env := by rfl) (hpl : (backTo pos (starEach es X.env)).any (·.1) = false := by rfl) :
    PE X (.Call (.Name x p) (e :: es) [] pos) (cE X.K L W P (callE (arity n den) fl)) := by
  constructor
  intro pins s σ H Q I h
  refine wpAny_Call_Name_kw (ld_glob I hg hm ?_ hdb)
  refine PySem.W.callWith_K (h₀ := X.base) I.ok.mod.kin hk (thn (ha.run pos pins s σ H _ I (prom_of arity_len h)) fun us s1 hx => ?_) he hpl
  obtain ⟨vs, H1, I1, r, q⟩ := hx
  exact ⟨I1.kIn, run_G F.ar hr hgd hb tk I1 r q⟩
theorem d_callG0 {k n : Nat} {f : Addr} {fd : FuncData} {ps : List Str} {den : List D → Sto → O D} {x : Str} (F : FnG X.prog X.w X.K X.mg X.base k f fd ps (spD X.K L n den)) (hr : Room k X.A) (hgd : X.A.guards = some []) (hg : Gl X x) (hm : X.mg x = some (.ref f)) (hk : PySem.W.keepIn X.K (.ref f) = true)
    (hb : Binds X.K fd ps []) (tk : Takes X W) (hdb : (x == ("__debug__" : Str)) = false := by decide) : PE X (.Call (.Name x p) [] [] pos) (cE X.K L W P (callE (arity n den) nilA)) := by
  constructor
  intro pins s σ H Q I h
  refine wpAny_Call_Name_kw (ld_glob I hg hm ?_ hdb)
  refine PySem.W.callWith_K0 I.kIn hk (run_G (us := []) (vs := []) F.ar hr hgd hb tk I .nil ?_)
  obtain ⟨F0, m, st, rr, w, hr, q⟩ := prom_of arity_len h
  exact q F0 m H [] .refl w rfl
end
end DL
set_option Elab.async false
set_option linter.all false
set_option maxRecDepth 100000
set_option autoImplicit false
namespace DL
open PySem PySem.Spec L2
/-! ### what a def made for itself goes -/
mutual
def D.under (n : Nat) : D → Bool
  | .ref i => decide (i < n)
  | .tup xs => D.underAll n xs
  | .lst xs => D.underAll n xs
  | _ => true
def D.underAll (n : Nat) : List D → Bool
  | [] => true
  | d :: ds => D.under n d && D.underAll n ds
end
def SO.under (n : Nat) : SO → Bool
  | .lst xs => D.underAll n xs
  | .ins _ fs => D.underAll n (fs.map (·.2))
  | .dic fs => D.underAll n (fs.map (·.2))
/-- a new list that is handed back stays as it is -/
def settle (n : Nat) (st : Sto) (d : D) : D :=
  match d with
  | .ref i => if i < n then d else
    match st[i]? with
    | some (.lst xs) => .lst xs
    | _ => d
  | d => d
def gcO (n : Nat) (o : O D) : O D :=
  match o with
  | .val d st => if D.under n (settle n st d) && (st.take n).all (SO.under n) then .val (settle n st d) (st.take n) else .bad
  | .exc e st => if D.underAll n (e.fs.map (·.2)) && (st.take n).all (SO.under n) then .exc e (st.take n) else .bad
  | .bad => .bad
def gcF (den : List D → Sto → O D) : List D → Sto → O D := fun ds st => gcO st.length (den ds st)
section
variable {K : PySem.W.Frag} {L : Str → Addr} {F F' : Hp} {m m' : List Addr} {st st' : Sto} {H H' : Hp} {n : Nat}
mutual
theorem Rep.cut : ∀ (d : D) (v : V), Rep K F m d v → D.under n d = true → Rep K F (m.take n) d v
  | .non, _, h, _ => by simpa only [Rep] using h
  | .bl _, _, h, _ => by simpa only [Rep] using h
  | .int _, _, h, _ => by simpa only [Rep] using h
  | .str _, _, h, _ => by simpa only [Rep] using h
  | .tup xs, v, h, b => by
    simp only [Rep] at h ⊢
    obtain ⟨a, vs, e, q, r⟩ := h
    exact ⟨a, vs, e, q, Reps.cut xs vs r (by simpa only [D.under] using b)⟩
  | .lst xs, v, h, b => by
    simp only [Rep] at h ⊢
    obtain ⟨a, vs, e, q, r⟩ := h
    exact ⟨a, vs, e, q, Reps.cut xs vs r (by simpa only [D.under] using b)⟩
  | .ref i, v, h, b => by
    simp only [Rep] at h ⊢
    obtain ⟨a, e, q⟩ := h
    simp only [D.under, decide_eq_true_eq] at b
    exact ⟨a, e, by rw [List.getElem?_take_of_lt b]; exact q⟩
  | .emp, v, h, _ => by simpa only [Rep] using h
  | .scr _, v, h, _ => by simpa only [Rep] using h
theorem Reps.cut : ∀ (ds : List D) (vs : List V), Reps K F m ds vs → D.underAll n ds = true → Reps K F (m.take n) ds vs
  | [], _, h, _ => by simpa only [Reps] using h
  | d :: ds, vs, h, b => by
    simp only [Reps] at h ⊢
    simp only [D.underAll, Bool.and_eq_true] at b
    obtain ⟨v, r, e, p, q⟩ := h
    exact ⟨v, r, e, Rep.cut d v p b.1, Reps.cut ds r q b.2⟩
end
theorem RepO.cut : ∀ {o : SO} {h : HO}, RepO K L F m o h → SO.under n o = true → RepO K L F (m.take n) o h
  | .lst _, _, ⟨vs, e, r⟩, b => ⟨vs, e, Reps.cut _ _ r b⟩
  | .ins _ _, _, ⟨dx, vs, e, r⟩, b => ⟨dx, vs, e, r.1, Reps.cut _ _ r.2 b⟩
  | .dic _, _, ⟨vs, e, q, r⟩, b => ⟨vs, e, q, Reps.cut _ _ r b⟩
theorem Wd.cut (w : Wd K L F m st H) (b : (st.take n).all (SO.under n) = true) : Wd K L F (m.take n) (st.take n) H := by
  refine ⟨w.sub, by simp [w.len], w.nd.sublist (List.take_sublist _ _), fun a h => w.off a (List.mem_of_mem_take h), fun i a h => ?_⟩
  have hi : i < n := by
    have := (List.getElem?_eq_some_iff.mp h).1
    simp at this; omega
  rw [List.getElem?_take_of_lt hi] at h
  obtain ⟨o, u, e1, e2, e3⟩ := w.at_ i a h
  have e1' : (st.take n)[i]? = some o := by rw [List.getElem?_take_of_lt hi]; exact e1
  exact ⟨o, u, e1', e2, e3.cut (List.all_eq_true.mp b o (List.mem_of_getElem? e1'))⟩
theorem Ext.cut (x : Ext F m H F' m' H') (hn : n = m.length) : Ext F m H F' (m'.take n) H' := by
  obtain ⟨r, e⟩ := x.em
  have e2 : m'.take n = m := by rw [e, hn]; simp
  rw [e2]
  exact ⟨x.ef, ⟨[], by simp⟩, x.ek, fun _ _ h => h, x.eg⟩
theorem gc_val {rel : Hp → List Addr → D → V → Prop} {Q : VK} {d : D} (hn : n = m.length) (b1 : D.under n (settle n st' d) = true) (b2 : (st'.take n).all (SO.under n) = true) (q : okG K L F m H (relE K) Q (settle n st' d) (st'.take n)) : okG K L F m H (relE K) Q d st' := by
  intro F1 m1 H1 v x w r
  have x1 := x.cut hn
  have w1 := w.cut b2
  have easy : settle n st' d = d → Q v H1 := fun e => by
    rw [e] at q b1
    exact q F1 _ H1 v x1 w1 (Rep.cut d v r b1)
  cases d with
  | ref i =>
    by_cases hi : i < n
    · exact easy (by unfold settle; simp only [hi, if_true])
    · cases es : st'[i]? with
      | none => exact easy (by unfold settle; simp only [hi, if_false, es])
      | some o =>
        cases o with
        | ins C fs => exact easy (by unfold settle; simp only [hi, if_false, es])
        | dic fs => exact easy (by unfold settle; simp only [hi, if_false, es])
        | lst xs =>
          have e0 : settle n st' (.ref i) = .lst xs := by unfold settle; simp only [hi, if_false, es]
          rw [e0] at q b1
          obtain ⟨a, rfl, ha⟩ := r
          obtain ⟨o, u, e1, e2, e3⟩ := w.at_ i a ha
          rw [es] at e1; cases e1
          obtain ⟨vs, rfl, rs⟩ := e3
          have rs' := Reps.cut (n := n) xs vs rs (by simpa only [D.under] using b1)
          have nm : a ∉ m1.take n := fun z => by
            obtain ⟨j, hj⟩ := List.mem_iff_getElem?.mp z
            have hjn : j < n := by
              have := (List.getElem?_eq_some_iff.mp hj).1
              simp at this; omega
            rw [List.getElem?_take_of_lt hjn] at hj
            obtain ⟨k1, k2⟩ := List.getElem?_eq_some_iff.mp hj
            obtain ⟨k3, k4⟩ := List.getElem?_eq_some_iff.mp ha
            have := (List.getElem_inj w.nd).mp (k2.trans k4.symm)
            omega
          have hF := w.off a (List.mem_of_getElem? ha)
          refine q (upd F1 a (.lst vs)) _ H1 (.ref a) ⟨fun b o h => upd_sub hF b o (x1.ef b o h), x1.em, x1.ek, x1.en, fun b h hb e => ?_⟩ (w1.freeze e2 nm hF) ⟨a, vs, rfl, upd_same, Reps.mono (upd_sub hF) ⟨[], by simp⟩ _ _ rs'⟩
          rw [upd_ne ?_]
          · exact x1.eg b h hb e
          · rintro rfl
            exact x.en b h hb (List.mem_of_getElem? ha)
  | _ => exact easy rfl
theorem RepX.cut {e : Ex} {d : Option Addr} (h : RepX K F m e d) (b : D.underAll n (e.fs.map (·.2)) = true) : RepX K F (m.take n) e d := by
  rcases h with h | ⟨dx, vs, e1, e2, e3⟩
  · exact .inl h
  · exact .inr ⟨dx, vs, e1, e2, e3.1, Reps.cut _ _ e3.2 b⟩
/-- a def's own new objects are told no more -/
theorem FnG.gc {P : Program} {w : PySem.World} {mg : Str → Option Value} {base : Heap} {k j : Nat} {f : Addr} {fd : FuncData} {ps : List Str} {den : List D → Sto → O D} (G : FnG P w K mg base k f fd ps (spD K L j den)) : FnG P w K mg base k f fd ps (spD K L j (gcF den)) := by
  refine G.imp fun vs H Q E ⟨h1, F0, m, st, ds, wd, r, q⟩ => ⟨h1, F0, m, st, ds, wd, r, ?_⟩
  unfold gcF gcO at q
  cases e : den ds st with
  | bad => rw [e] at q; exact q
  | val d st' =>
    rw [e] at q
    by_cases hb : (D.under st.length (settle st.length st' d) && (st'.take st.length).all (SO.under st.length)) = true
    · simp only [hb, if_true] at q
      rw [Bool.and_eq_true] at hb
      exact gc_val (rel := relE K) wd.len.symm hb.1 hb.2 q
    · simp only [hb] at q; exact q.elim
  | exc x st' =>
    rw [e] at q
    by_cases hb : (D.underAll st.length (x.fs.map (·.2)) && (st'.take st.length).all (SO.under st.length)) = true
    · simp only [hb, if_true] at q
      rw [Bool.and_eq_true] at hb
      exact fun F' m' H' d e' w' rx => q F' _ H' d (e'.cut wd.len.symm) (w'.cut hb.2) (rx.cut hb.1)
    · simp only [hb] at q; exact q.elim
end

/-! ### targets -/
/-- a, b, .. = a tuple: names -/
def namesE : List Nat → List D → Env → Option Env
  | [], [], r => some r
  | i :: is, d :: ds, r => namesE is ds (r.set i (some d))
  | _, _, _ => none
def tupG (is : List Nat) : DG := fun d r st =>
  match d with
  | .tup ds => ofOpt (namesE is ds r) st
  | _ => .bad
/-- what stands in a list, changed or not -/
def listAt (st : Sto) (d : D) : Option (List D) :=
  match d with
  | .lst xs => some xs
  | .ref i => match st[i]? with
    | some (.lst xs) => some xs
    | _ => none
  | _ => none
def lstG (is : List Nat) : DG := fun d r st =>
  match listAt st d with
  | some ds => ofOpt (namesE is ds r) st
  | none => .bad
def gNames : List Nat → TGs
  | [] => gNil
  | i :: is => gCons (gName i) (gNames is)
section
variable {K : PySem.W.Frag} {L : Str → Addr} {W : WX} {P : Option XP} {F : Hp} {m : List Addr} {st : Sto} {H : Hp}
theorem names_of : ∀ {is : List Nat} {ds : List D} {vs : List V} {r r1 : Env} {s : St} {Q : St → Hp → Prop}, (∀ i ∈ is, free P i) → Reps K F m ds vs → RepSt K P F m r s → namesE is ds r = some r1 → (∀ s1, RepSt K P F m r1 s1 → Q s1 H) → gNames is vs s H Q
  | [], [], vs, r, r1, s, Q, _, rd, hr, e, q => by
    cases e
    exact ⟨rd, q s hr⟩
  | [], _ :: _, _, _, _, _, _, _, _, _, e, _ => by cases e
  | _ :: _, [], _, _, _, _, _, _, _, _, e, _ => by cases e
  | i :: is, d :: ds, vs, r, r1, s, Q, hP, rd, hr, e, q => by
    simp only [Reps] at rd
    obtain ⟨v, vr, rfl, rv, rr⟩ := rd
    exact ⟨v, vr, rfl, names_of (fun j hj => hP j (List.mem_cons_of_mem _ hj)) rr (hr.set rv (hP i List.mem_cons_self)) e q⟩
theorem listAt_rep {d : D} {v : V} {xs : List D} (w : Wd K L F m st H) (h : Rep K F m d v) (e : listAt st d = some xs) : ∃ a vs, v = .ref a ∧ H a = some (.lst vs) ∧ Reps K F m xs vs := by
  cases d with
  | lst ys =>
    cases e
    obtain ⟨a, vs, h1, h2, h3⟩ := h
    exact ⟨a, vs, h1, w.sub _ _ h2, h3⟩
  | ref i =>
    obtain ⟨a, h1, h2⟩ := h
    obtain ⟨o, u, e1, e2, e3⟩ := w.at_ i a h2
    simp only [listAt, e1] at e
    cases o with
    | lst ys =>
      cases e
      obtain ⟨vs, rfl, r⟩ := e3
      exact ⟨a, vs, h1, e2, r⟩
    | _ => cases e
  | _ => cases e
theorem Reps.len2 {xs : List D} {vs : List V} (h : Reps K F m xs vs) : vs.length = xs.length := Reps.length h
theorem namesE_len : ∀ {is : List Nat} {ds : List D} {r r1 : Env}, namesE is ds r = some r1 → ds.length = is.length
  | [], [], _, _, _ => rfl
  | [], _ :: _, _, _, e => by cases e
  | _ :: _, [], _, _, e => by cases e
  | i :: is, d :: ds, r, r1, e => by simp only [List.length_cons, namesE_len (is := is) (ds := ds) e]
theorem tup_of {is : List Nat} (hP : ∀ i ∈ is, free P i) {v : V} {s : St} {Q : St → Hp → Prop} (h : cGt K L W P (tupG is) v s H Q) : gTup K is.length (gNames is) v s H Q := by
  obtain ⟨F, m, st, r, d, w, hr, rd, q⟩ := h
  cases d with
  | tup ds =>
    obtain ⟨a, vs, rfl, ha, rs⟩ := rd
    obtain ⟨r1, e1, q⟩ := ofOpt_sat q
    exact ⟨a, vs, rfl, SqT.sub w.sub (SqT.of ha), by rw [Reps.length rs, namesE_len e1], names_of hP rs hr e1 fun s1 h1 => q F m H s1 .refl w h1⟩
  | _ => exact q.elim
theorem lst_of {is : List Nat} (hP : ∀ i ∈ is, free P i) {v : V} {s : St} {Q : St → Hp → Prop} (h : cGt K L W P (lstG is) v s H Q) : gLst K is.length (gNames is) v s H Q := by
  obtain ⟨F, m, st, r, d, w, hr, rd, q⟩ := h
  unfold lstG at q
  cases el : listAt st d with
  | none => rw [el] at q; exact q.elim
  | some ds =>
    rw [el] at q
    obtain ⟨a, vs, rfl, ha, rs⟩ := listAt_rep w rd el
    obtain ⟨r1, e1, q⟩ := ofOpt_sat q
    exact ⟨a, vs, rfl, SqL.of ha, by rw [Reps.length rs, namesE_len e1], names_of hP rs hr e1 fun s1 h1 => q F m H s1 .refl w h1⟩
end
section
variable {X : Cx} {L : Str → Addr} {W : WX} {P : Option XP} {pos : Pos} {fo fi : DX D}
theorem d_tupG {e : Expr} {is : List Nat} (h : PG X e (gTup X.K is.length (gNames is))) (hP : ∀ i ∈ is, free P i) : PG X e (cGt X.K L W P (tupG is)) := PGw h fun _ _ _ _ q => tup_of hP q
theorem d_lstG {e : Expr} {is : List Nat} (h : PG X e (gLst X.K is.length (gNames is))) (hP : ∀ i ∈ is, free P i) : PG X e (cGt X.K L W P (lstG is)) := PGw h fun _ _ _ _ q => lst_of hP q
/-- o[i] = v, o a list that changes -/
def setD (st : Sto) (o i v : D) : Option Sto :=
  match o, i with
  | .ref k, .int j => match st[k]? with
    | some (.lst xs) => (ixN xs.length j).map fun n => st.set k (.lst (xs.set n v))
    | _ => none
  | _, _ => none
def subG (fo fi : DX D) : DG := fun d r st => (fo r st).bind fun o st1 => (fi r st1).bind fun i st2 =>
  match setD st2 o i d with
  | some st3 => .val r st3
  | none => .bad
theorem Reps.set {K : PySem.W.Frag} {F : Hp} {m : List Addr} {d : D} {v : V} (h : Rep K F m d v) : ∀ {xs : List D} {vs : List V} (n : Nat), Reps K F m xs vs → Reps K F m (xs.set n d) (vs.set n v)
  | [], _, _, e => by simp only [Reps] at e; subst e; rfl
  | x :: xs, _, 0, e => by
    simp only [Reps] at e
    obtain ⟨u, r, rfl, p, q⟩ := e
    exact ⟨v, r, rfl, h, q⟩
  | x :: xs, _, n + 1, e => by
    simp only [Reps] at e
    obtain ⟨u, r, rfl, p, q⟩ := e
    exact ⟨u, r.set n v, rfl, p, Reps.set h n q⟩
theorem set_of {K : PySem.W.Frag} {F : Hp} {m : List Addr} {st st3 : Sto} {H : Hp} {o i d : D} {ov iv v : V} {Q : Hp → Prop} (w : Wd K L F m st H) (ro : Rep K F m o ov) (ri : Rep K F m i iv) (rd : Rep K F m d v) (e : setD st o i d = some st3)
    (q : ∀ H', Ext F m H F m H' → Wd K L F m st3 H' → Q H') : rSetL ov iv v H Q := by
  unfold setD at e
  split at e
  · rename_i k j
    obtain ⟨a, rfl, ha⟩ := ro
    simp only [Rep] at ri
    subst ri
    obtain ⟨so, u, e1, e2, e3⟩ := w.at_ k a ha
    rw [e1] at e
    cases so with
    | lst xs =>
      obtain ⟨vs, rfl, rs⟩ := e3
      cases en : ixN xs.length j with
      | none => simp only [en] at e; cases e
      | some n =>
        simp only [en] at e
        cases e
        refine ⟨a, vs, j, n, rfl, rfl, e2, by rw [Reps.length rs]; exact en, q _ (Ext.put (List.mem_of_getElem? ha)) ?_⟩
        exact w.put (o := .lst (xs.set n d)) ha ⟨_, rfl, Reps.set rd n rs⟩
    | _ => cases e
  · cases e
theorem sub_of {K : PySem.W.Frag} {v : V} {s : St} {H : Hp} {Q : St → Hp → Prop} (h : cGt K L W P (subG fo fi) v s H Q) : gSub (cE K L W P fo) (cE K L W P fi) rSetL v s H Q := by
  obtain ⟨F, m, st, r, d, w, hr, rd, q⟩ := h
  refine step w hr q fun o st1 F1 m1 H1 ov e1 w1 r1 ro q1 => ?_
  refine step w1 r1 (O.sat.imp q1 (fun _ _ z => z) fun _ _ z => z) fun i st2 F2 m2 H2 iv e2 w2 r2 ri q2 => ?_
  cases es : setD st2 o i d with
  | none => rw [es] at q2; exact q2.elim
  | some st3 =>
    rw [es] at q2
    exact set_of w2 (ro.ext e2) ri ((rd.ext e1).ext e2) es fun H3 e3 w3 => q2 F2 m2 H3 s ((e1.trans e2).trans e3) w3 (r2.ext e3)
theorem d_subG {o i : Expr} (h : PG X (.Subscript o i pos) (gSub (cE X.K L W P fo) (cE X.K L W P fi) rSetL)) : PG X (.Subscript o i pos) (cGt X.K L W P (subG fo fi)) := PGw h fun _ _ _ _ q => sub_of q
end
end DL
set_option Elab.async false
set_option linter.all false
set_option maxRecDepth 100000
set_option autoImplicit false
namespace DL
open PySem PySem.Spec L2
/-! ### classes of errors -/
/-- a class that is named: one of the program's, a built-in one -/
inductive CD where
  | own (c : Str) | ty (n : String)
  deriving DecidableEq
def CD.val (L : Str → Addr) : CD → Value
  | .own c => .ref (L c)
  | .ty n => .type n
def CD.v (L : Str → Addr) : CD → V
  | .own c => .ref (L c)
  | .ty n => .ty n
theorem cd_cls (L : Str → Addr) (q : CD) : ClsV (q.v L) (q.val L) := by
  cases q with
  | own c => exact .own (L c)
  | ty n => exact .ty n
/-- the program's classes of errors, each with the classes that it is under -/
abbrev ExTab := List (Str × List CD)
structure ExK (K : PySem.W.Frag) (C : Addr) : Prop where
  cl : (PySem.W.clsIn K C).isSome = true
  ga : PySem.W.findIn K (.ref C) "__getattribute__" = some (some (.builtin "BaseException.__getattribute__"))
  gg : PySem.W.findIn K (.ref C) "__getattr__" = some none
  sb : PySem.W.subIn K (.ref C) (.type "BaseException") = some true
  hd : PySem.W.hasDictIn K C = true
  ha : PySem.W.findIn K (.ref C) "__class__" = some (some (.builtin "object.__class__"))
  hn : PySem.W.specialIn K (.builtin "object.__class__") "__get__" = some (some (.builtin "getset_descriptor.__get__"))
  ht : PySem.W.takesIn K (.builtin "object.__class__") = some true
  hm : PySem.W.mroIn K C (.type "object") = some true
  tc : PySem.W.typeIn K (.ref C) = some (.type "type")
  kc : PySem.W.keepIn K (.ref C) = true
def exKB (K : PySem.W.Frag) (C : Addr) : Bool :=
  (PySem.W.clsIn K C).isSome && decide (PySem.W.findIn K (.ref C) "__getattribute__" = some (some (.builtin "BaseException.__getattribute__"))) && decide (PySem.W.findIn K (.ref C) "__getattr__" = some none)
  && decide (PySem.W.subIn K (.ref C) (.type "BaseException") = some true) && PySem.W.hasDictIn K C && decide (PySem.W.findIn K (.ref C) "__class__" = some (some (.builtin "object.__class__")))
  && decide (PySem.W.specialIn K (.builtin "object.__class__") "__get__" = some (some (.builtin "getset_descriptor.__get__"))) && decide (PySem.W.takesIn K (.builtin "object.__class__") = some true)
  && decide (PySem.W.mroIn K C (.type "object") = some true) && decide (PySem.W.typeIn K (.ref C) = some (.type "type")) && PySem.W.keepIn K (.ref C)
theorem exKB_ok {K : PySem.W.Frag} {C : Addr} (h : exKB K C = true) : ExK K C := by
  unfold exKB at h
  simp only [Bool.and_eq_true, decide_eq_true_eq] at h
  obtain ⟨⟨⟨⟨⟨⟨⟨⟨⟨⟨h1, h2⟩, h3⟩, h4⟩, h5⟩, h6⟩, h7⟩, h8⟩, h9⟩, h10⟩, h11⟩ := h
  exact ⟨h1, h2, h3, h4, h5, h6, h7, h8, h9, h10, h11⟩
/-- what is asked of the written part, of all classes of errors at once -/
structure ExOk (K : PySem.W.Frag) (L : Str → Addr) (T : ExTab) (Qs : List CD) : Prop where
  cls : ∀ p ∈ T, ExK K (L p.1)
  kit : ∀ p ∈ T, ∀ q ∈ Qs, PySem.W.kitOne K (.ref (L p.1)) (q.val L) = some (decide (q ∈ p.2))
  exm : ∀ p ∈ T, ∀ q ∈ Qs, PySem.W.exmOne K (.ref (L p.1)) (q.val L) = some (decide (q ∈ p.2))
def exOkB (K : PySem.W.Frag) (L : Str → Addr) (T : ExTab) (Qs : List CD) : Bool :=
  T.all fun p => exKB K (L p.1) && Qs.all fun q => decide (PySem.W.kitOne K (.ref (L p.1)) (q.val L) = some (decide (q ∈ p.2))) && decide (PySem.W.exmOne K (.ref (L p.1)) (q.val L) = some (decide (q ∈ p.2)))
theorem exOkB_ok {K : PySem.W.Frag} {L : Str → Addr} {T : ExTab} {Qs : List CD} (h : exOkB K L T Qs = true) : ExOk K L T Qs := by
  unfold exOkB at h
  simp only [List.all_eq_true, Bool.and_eq_true, decide_eq_true_eq] at h
  exact ⟨fun p hp => exKB_ok (h p hp).1, fun p hp q hq => ((h p hp).2 q hq).1, fun p hp q hq => ((h p hp).2 q hq).2⟩
/-- whether an error is of a class: none where that isn't known -/
def isSub (T : ExTab) (Qs : List CD) (c : Str) (q : CD) : Option Bool := if q ∈ Qs then (T.find? fun p => p.1 == c).map fun p => decide (q ∈ p.2) else none
theorem isSub_ok {T : ExTab} {Qs : List CD} {c : Str} {q : CD} {b : Bool} (h : isSub T Qs c q = some b) : ∃ p ∈ T, p.1 = c ∧ q ∈ Qs ∧ b = decide (q ∈ p.2) := by
  unfold isSub at h
  split at h
  · rename_i hq
    cases e : T.find? (fun p => p.1 == c) with
    | none => rw [e] at h; cases h
    | some p =>
      rw [e] at h
      cases h
      have hp := List.find?_some e
      exact ⟨p, List.mem_of_find?_eq_some e, by simpa using hp, hq, rfl⟩
  · cases h

/-! ### raise -/
def cX (K : PySem.W.Frag) (L : Str → Addr) (W : WX) (P : Option XP) (g : DX Ex) : St → Hp → XK → Prop := fun σ H Q =>
  ∃ F m st r, Wd K L F m st H ∧ RepSt K P F m r σ ∧ (g r st).sat (fun e st' => ∀ F' m' H' d, Ext F m H F' m' H' → Wd K L F' m' st' H' → RepX K F' m' e d → Q (.ref (L e.cls)) d H') (exE K L W F m H σ)
def raiseS (g : DX Ex) : DS := fun r st => (g r st).to r fun e st1 => .exc e r st1
def ex0 (c : Str) : DX Ex := fun _ st => .val ⟨c, []⟩ st
def exA (c : Str) (fs : List Str) (f : DX (List D)) : DX Ex := fun r st => (f r st).bind fun ds st1 => if ds.length = fs.length then .val ⟨c, (fs.zip ds).reverse⟩ st1 else .bad
section
variable {X : Cx} {L : Str → Addr} {W : WX} {P : Option XP} {pos p : Pos} {fl : DX (List D)}
theorem d_raise {e : Expr} {g : DX Ex} (hc : X.calm = true) (tk : Takes X W) (he : PMk X e (cX X.K L W P g)) : PS X (.Raise (some e) none pos) (cS X.K L W P (raiseS g)) := by
  refine PSw (ps_raise hc tk he) fun Dn s H ⟨F, m, st, r, w, hr, q⟩ => ?_
  refine ⟨F, m, st, r, w, hr, ?_⟩
  unfold raiseS at q
  cases e : g r st with
  | bad => rw [e] at q; exact q
  | exc x st1 => rw [e] at q; exact wants_ex hr q
  | val x st1 =>
    rw [e] at q
    exact fun F1 m1 H1 d e1 w1 rx => q F1 m1 H1 s d e1 w1 (hr.ext e1) rx
/-- X(), X a class of the program without an own __init__ -/
theorem d_ex0 {x : Str} {bmB : List Value} {B newId initId : String} (F : ExcBaseFacts B newId initId bmB) (q : PySem.W.excIn X.K (L x) bmB newId = true) (T : ExK X.K (L x)) (gC : X.mg x = some (.ref (L x))) (hg : Gl X x) (hdb : (x == ("__debug__" : Str)) = false := by decide) :
    PMk X (.Call (.Name x p) [] [] pos) (cX X.K L W P (ex0 x)) := by
  intro pins s σ H Q I ⟨F0, m, st, rr, w, hr, h⟩
  refine wpAny_Call_Name_kw (ld_glob I hg gC ?_ hdb)
  refine PySem.W.callWith_K0 (f := .ref (L x)) (first := []) I.kIn T.kc ?_
  show wpAny _ _ (call (.ref (L x)) []) _ _ _
  obtain ⟨bm, N, nm, qn, bs, hdct, sn, sub, ab, col, dd, k0, k1, k2, k3, k5, mN, hC, hN, hni, TT⟩ := exc_obj I.kIn q
  refine wpAny_call_exc_subT F TT hC hN hni (fun h' e hm => ?_) (Nat.zero_le _)
  exact mk_of I hm (raises_own T.sb T.tc) (h F0 m H none .refl w (.inl ⟨rfl, rfl⟩)) (I.hok.gone hm.new)
/-- what an own __init__ that stores its parameters promises -/
def spI (C : Addr) (fs : List Str) : Sp := fun vs H Q _ => ∃ (a : Addr) (ys : List V), vs = .ref a :: ys ∧ ys.length = fs.length ∧ fs ≠ [] ∧ H a = some (exo a C none) ∧
  ∀ dx H', H dx = none → dx ≠ a → H' a = some (exo a C (some dx)) → H' dx = some (exd dx (fs.zip ys).reverse) → (∀ b, b ≠ a → b ≠ dx → H' b = H b) → Q .non H'
theorem Reps.rev {K : PySem.W.Frag} {F : Hp} {m : List Addr} : ∀ {ds : List D} {vs : List V}, Reps K F m ds vs → Reps K F m ds.reverse vs.reverse
  | [], _, h => by simp only [Reps] at h; subst h; rfl
  | d :: ds, _, h => by
    simp only [Reps] at h
    obtain ⟨v, r, rfl, p, q⟩ := h
    rw [List.reverse_cons, List.reverse_cons]
    exact Reps.app p (Reps.rev q)
theorem repFs_zip {K : PySem.W.Frag} {F : Hp} {m : List Addr} {fs : List Str} {ds : List D} {vs : List V} (h : Reps K F m ds vs) (hl : ds.length = fs.length) : RepFs K F m (fs.zip ds).reverse (fs.zip vs).reverse := by
  have hv : vs.length = fs.length := by rw [Reps.length h]; exact hl
  refine ⟨?_, ?_⟩
  · rw [List.map_reverse, List.map_reverse, List.map_fst_zip (by omega), List.map_fst_zip (by omega)]
  · rw [List.map_reverse, List.map_reverse, List.map_snd_zip (by omega), List.map_snd_zip (by omega)]
    exact h.rev
/-- X(e, ..), X with such an __init__ -/
theorem d_exA {x : Str} {fI : Addr} {k : Nat} {fd : FuncData} {fs : List Str} {e : Expr} {es : List Expr} (hfs : fs.Nodup) (T : OexC X.K (L x)) (iC : PySem.W.findIn X.K (.ref (L x)) "__init__" = some (some (.ref fI))) (tI : PySem.W.typeIn X.K (.ref fI) = some (.type "function"))
    (F1 : FnOk X.prog X.w X.K X.mg X.base CX0 k fI fd ("self" :: fs) (spI (L x) fs)) (hr : Room (k + 1) X.A) (hb : Binds X.K fd ("self" :: fs) []) (hg : Gl X x) (hm : X.mg x = some (.ref (L x))) (hne : fs ≠ []) (hl : fs.length ≤ 900) (ha : PA X (e :: es) (cA X.K L W P fl))
    (hdb : (x == ("__debug__" : Str)) = false := by decide) (he : starEach (e :: es) X.env = (false, eval e X.env) :: starEach es X.env := by rfl) (hpl : (backTo pos (starEach es X.env)).any (·.1) = false := by rfl) :
    PMk X (.Call (.Name x p) (e :: es) [] pos) (cX X.K L W P (exA x fs fl)) := by
  have key := pmk_oex (pos := pos) (p := p) T iC tI F1 hr hb .nil pass0 hg hm ha hdb he hpl
  intro pins s σ H Q I ⟨F0, m, st, rr, w, hrr, h⟩
  refine key pins s σ H Q I ?_
  refine step w hrr h fun ds st1 F1' m1 H1 vs e1 w1 r1 rd q1 => ?_
  by_cases hd : ds.length = fs.length
  · rw [if_pos hd] at q1
    have hvl : vs.length = fs.length := by rw [Reps.length rd]; exact hd
    refine ⟨by rw [hvl]; omega, fun a hna => ?_⟩
    rw [List.append_nil]
    refine ⟨a, vs, rfl, hvl, hne, upd_same, fun dx H' hdx hda h1 h2 h3 => ⟨rfl, dx, _, h1, h2, ?_, ?_⟩⟩
    · rw [upd_ne hda] at hdx; exact hdx
    · have hdx1 : H1 dx = none := by rw [upd_ne hda] at hdx; exact hdx
      have eH : upd (del H' a) dx (.xd (fs.zip vs).reverse) = upd H1 dx (.xd (fs.zip vs).reverse) := by
        funext b
        by_cases hbd : b = dx
        · rw [hbd, upd_same, upd_same]
        · rw [upd_ne hbd, upd_ne hbd]
          by_cases hba : b = a
          · rw [hba, del_same, hna]
          · rw [del_ne hba, h3 b hba hbd, upd_ne hba]
      rw [eH]
      refine q1 (upd F1' dx _) m1 _ (some dx) (e1.trans (Ext.froze (w1.new_F hdx1) hdx1)) (w1.froze hdx1) (.inr ⟨dx, _, rfl, upd_same, ?_⟩)
      exact repFs_zip (Reps.mono (upd_sub (w1.new_F hdx1)) ⟨[], by simp⟩ _ _ rd) hd
  · rw [if_neg hd] at q1; exact q1.elim

/-! ### the bodies of such __init__ -/
theorem init1_reads {K : PySem.W.Frag} {C : Addr} {f : Str} {vs : List V} {H : Hp} {Q : VK} {E : XK} (T : OexC K C) (hno : PySem.W.findIn K (.ref C) f = some none) (h : spI C [f] vs H Q E) :
    tOst K f (tVar 0) (tVar 1) { nx := fun _ H' => Q .non H', rt := Q } (L2.start ["self", f] vs) H := by
  obtain ⟨a, ys, rfl, hl, _, ha, k⟩ := h
  obtain ⟨y, rfl⟩ : ∃ y, ys = [y] := List.length_eq_one_iff.mp hl
  refine ⟨y, rfl, .ref a, rfl, a, C, rfl, T, hno, .inl ⟨ha, fun dx hdx hda => ?_⟩⟩
  refine k dx _ hdx hda upd_same (by rw [upd_ne hda, upd_same]; rfl) fun b h1 h2 => by rw [upd_ne h1, upd_ne h2]
theorem init2_reads {K : PySem.W.Frag} {C : Addr} {f g : Str} {vs : List V} {H : Hp} {Q : VK} {E : XK} (T : OexC K C) (hno : PySem.W.findIn K (.ref C) f = some none) (hno2 : PySem.W.findIn K (.ref C) g = some none) (h : spI C [f, g] vs H Q E) :
    tSeq (tOst K f (tVar 0) (tVar 1)) (tOst K g (tVar 0) (tVar 2)) { nx := fun _ H' => Q .non H', rt := Q } (L2.start ["self", f, g] vs) H := by
  obtain ⟨a, ys, rfl, hl, _, ha, k⟩ := h
  obtain ⟨y, z, rfl⟩ : ∃ y z, ys = [y, z] := by
    match ys, hl with
    | [y, z], _ => exact ⟨y, z, rfl⟩
  refine ⟨y, rfl, .ref a, rfl, a, C, rfl, T, hno, .inl ⟨ha, fun dx hdx hda => ?_⟩⟩
  refine ⟨z, rfl, .ref a, rfl, a, C, rfl, T, hno2, .inr ⟨dx, [(f, y)], upd_same, by rw [upd_ne hda, upd_same], by simp, ?_⟩⟩
  refine k dx _ hdx hda (by rw [upd_ne hda.symm, upd_same]) upd_same fun b h1 h2 => by rw [upd_ne h2, upd_ne h1, upd_ne h2]

/-! ### try -/
/-- a clause: the class, the name's slot, the suite -/
structure Clause where
  c : CD
  i : Option Nat
  s : Ex → DS
/-- a suite raises nothing -/
def noExS (o : OS) : OS :=
  match o with
  | .exc _ _ _ => .bad
  | o => o
def hdsS (T : ExTab) (Qs : List CD) (x : Ex) : List Clause → DS
  | [] => fun r st => .exc x r st
  | h :: hs => fun r st =>
    match isSub T Qs x.cls h.c with
    | none => .bad
    | some true => (match h.i with
      | none => noExS (h.s x r st)
      | some i => noExS (h.s x (r.set i none) st))
    | some false => hdsS T Qs x hs r st
def tryS (T : ExTab) (Qs : List CD) (b : DS) (hs : List Clause) : DS := fun r st =>
  match b r st with
  | .exc x r1 st1 => hdsS T Qs x hs r1 st1
  | o => o
end
end DL
set_option Elab.async false
set_option linter.all false
set_option maxRecDepth 100000
set_option autoImplicit false
namespace DL
open PySem PySem.Spec L2
abbrev W0 : WX := fun _ _ _ _ => False
inductive HdsD (X : Cx) (L : Str → Addr) : List ExceptHandler → List Clause → Prop where
  | nil : HdsD X L [] []
  | named {x n : Str} {c : CD} {i : Nat} {sf : Ex → DS} {b0 : Stmt} {suite : List Stmt} {np pos' : Pos} {hds : List ExceptHandler} {cl : List Clause} (hc : Names X x (c.val L)) (hi : X.N[i]? = some n) (hln : X.env.kindOf n = some .local)
      (hsu : ∀ (a : Addr) (oe : Obj) (d : Option Addr) (pn : List (Addr × Obj)) (xx : Ex), Zc (.ref (L xx.cls)) d oe → (∃ vs, oe.data = .fields vs) → PSs (X.suite a ((a, oe) :: pn)) (b0 :: suite) (cS X.K L W0 (some ⟨i, a, xx, d⟩) (sf xx))) (r : HdsD X L hds cl) :
      HdsD X L (.ExceptHandler (some (.Name x np)) (some n) (b0 :: suite) pos' :: hds) (⟨c, some i, sf⟩ :: cl)
  | bare {x : Str} {c : CD} {sf : Ex → DS} {b0 : Stmt} {suite : List Stmt} {np pos' : Pos} {hds : List ExceptHandler} {cl : List Clause} (hc : Names X x (c.val L))
      (hsu : ∀ (a : Addr) (oe : Obj) (d : Option Addr) (pn : List (Addr × Obj)) (xx : Ex), Zc (.ref (L xx.cls)) d oe → (∃ vs, oe.data = .fields vs) → PSs (X.suite a ((a, oe) :: pn)) (b0 :: suite) (cS X.K L W0 none (sf xx))) (r : HdsD X L hds cl) :
      HdsD X L (.ExceptHandler (some (.Name x np)) none (b0 :: suite) pos' :: hds) (⟨c, none, sf⟩ :: cl)
/-- what is wished of an error of a try's body -/
def wTry (K : PySem.W.Frag) (L : Str → Addr) (W : WX) (T : ExTab) (Qs : List CD) (cl : List Clause) (Dn : Ends) : WX := fun cls d σ H =>
  ∃ F m st r x, Wd K L F m st H ∧ RepSt K none F m r σ ∧ cls = .ref (L x.cls) ∧ RepX K F m x d ∧ (hdsS T Qs x cl r st).sat (wants K L W none F m H Dn)
section
variable {X : Cx} {L : Str → Addr} {W : WX} {T : ExTab} {Qs : List CD} {pos : Pos}
theorem try_of {K : PySem.W.Frag} {b : DS} {cl : List Clause} {Dn : Ends} {s : St} {H : Hp} (h : cS K L W none (tryS T Qs b cl) Dn s H) : cS K L (wTry K L W T Qs cl Dn) none b Dn s H := by
  obtain ⟨F, m, st, r, w, hr, q⟩ := h
  refine ⟨F, m, st, r, w, hr, ?_⟩
  unfold tryS at q
  cases e : b r st with
  | exc x r1 st1 =>
    rw [e] at q
    exact fun F1 m1 H1 s1 d e1 w1 r1' rx => ⟨F1, m1, st1, r1, x, w1, r1', rfl, rx, OS.sat.ext e1 q⟩
  | nx _ _ => rw [e] at q; exact q
  | rt _ _ => rw [e] at q; exact q
  | bk _ _ => rw [e] at q; exact q
  | ct _ _ => rw [e] at q; exact q
  | bad => rw [e] at q; exact q
/-- behind a suite with a name: the name is gone -/
def endsAs (i : Nat) (Dn : Ends) : Ends := { nx := fun s H => Dn.nx (s.set i none) H, rt := Dn.rt, bk := fun s H => Dn.bk (s.set i none) H, ct := fun s H => Dn.ct (s.set i none) H }
theorem RepSt.leave {K : PySem.W.Frag} {F : Hp} {m : List Addr} {r : Env} {s : St} {i : Nat} {a : Addr} {x : Ex} {d : Option Addr} (h : RepSt K (some ⟨i, a, x, d⟩) F m r s) : RepSt K none F m r (s.set i none) := by
  obtain ⟨_, q, _⟩ := h.px _ rfl
  refine ⟨by simp [h.len], fun j d' e => ?_, fun p e => by cases e⟩
  by_cases hj : j = i
  · subst hj
    have q : r[j]? = some none := q
    rw [q] at e; cases e
  · obtain ⟨v, e1, e2⟩ := h.at_ j d' e
    exact ⟨v, by rw [List.getElem?_set_ne (Ne.symm hj)]; exact e1, e2⟩
theorem as_of {K : PySem.W.Frag} {F : Hp} {m : List Addr} {st : Sto} {r : Env} {σ : St} {H : Hp} {Dn : Ends} {i : Nat} {a : Addr} {x : Ex} {d : Option Addr} {f : DS} (w : Wd K L F m st H) (hr : RepSt K none F m r σ) (hi : i < σ.length) (rx : RepX K F m x d)
    (q : (noExS (f (r.set i none) st)).sat (wants K L W none F m H Dn)) : cS K L W0 (some ⟨i, a, x, d⟩) f (endsAs i Dn) (σ.set i (some (.ref a))) H := by
  refine ⟨F, m, st, r.set i none, w, ⟨by simp [hr.len], fun j d' e => ?_, fun p e => ?_⟩, ?_⟩
  · by_cases hj : j = i
    · subst hj
      rw [List.getElem?_set_self (by rw [hr.len]; exact hi)] at e; cases e
    · rw [List.getElem?_set_ne (Ne.symm hj)] at e
      obtain ⟨v, e1, e2⟩ := hr.at_ j d' e
      exact ⟨v, by rw [List.getElem?_set_ne (Ne.symm hj)]; exact e1, e2⟩
  · cases e
    exact ⟨List.getElem?_set_self hi, List.getElem?_set_self (by rw [hr.len]; exact hi), rx⟩
  · cases e : f (r.set i none) st with
    | nx r1 st1 => rw [e] at q; exact fun F1 m1 H1 s1 e1 w1 h1 => q F1 m1 H1 _ e1 w1 h1.leave
    | bk r1 st1 => rw [e] at q; exact fun F1 m1 H1 s1 e1 w1 h1 => q F1 m1 H1 _ e1 w1 h1.leave
    | ct r1 st1 => rw [e] at q; exact fun F1 m1 H1 s1 e1 w1 h1 => q F1 m1 H1 _ e1 w1 h1.leave
    | rt d st1 => rw [e] at q; exact q
    | exc x r1 st1 => rw [e] at q; exact q.elim
    | bad => rw [e] at q; exact q
theorem bare_of {K : PySem.W.Frag} {F : Hp} {m : List Addr} {st : Sto} {r : Env} {σ : St} {H : Hp} {Dn : Ends} {f : DS} (w : Wd K L F m st H) (hr : RepSt K none F m r σ) (q : (noExS (f r st)).sat (wants K L W none F m H Dn)) : cS K L W0 none f Dn σ H := by
  refine ⟨F, m, st, r, w, hr, ?_⟩
  cases e : f r st with
  | exc x r1 st1 => rw [e] at q; exact q.elim
  | nx _ _ => rw [e] at q; exact q
  | rt _ _ => rw [e] at q; exact q
  | bk _ _ => rw [e] at q; exact q
  | ct _ _ => rw [e] at q; exact q
  | bad => rw [e] at q; exact q
/-- THE RULE for try: body, clauses with or without a name -/
theorem d_try {b : DS} {cl : List Clause} {body : List Stmt} {h0 : ExceptHandler} {hds : List ExceptHandler} (hs : X.stack = X.env :: X.outer) (hf : X.env.frame = some X.env.locals) (hN : X.N.Nodup) (tk : Takes X W) (ok : ExOk X.K L T Qs)
    (hb : ∀ (W' : WX) (pn : List (Addr × Obj)) (xe : Value → Shared → Prop), Takes (X.tr pn xe) W' → PassesOwn (model X.prog X.w) X.A X.env xe → PSs (X.tr pn xe) body (cS X.K L W' none b)) (hh : HdsD X L (h0 :: hds) cl) :
    PS X (.Try body (h0 :: hds) [] [] pos) (cS X.K L W none (tryS T Qs b cl)) := by
  constructor
  intro pins s σ H Dn I h
  have xok := I.ok
  have frames : X.A.frames = some (X.env :: X.outer) := by rw [xok.frames, hs]
  refine wpAny_Try_except (wpAny_mono ((hb (wTry X.K L W T Qs cl Dn) (X.pn ++ pins) (fun e s1 => wpAny (model X.prog X.w) X.A (noteFrame e X.env) (fun _ s2 => wpAny (model X.prog X.w) X.A (setFlight e none) (fun _ s3 =>
    wpAny (model X.prog X.w) X.A (handleBy e X.env (h0 :: hds)) (SP X pins Dn) X.xe s3) X.xe s2) X.xe s1) ?taken PassesOwn.looking).run [] s σ H Dn (I.toTry _) (try_of h)) ?through (fun _ _ z => z))
  case through =>
    intro f s1 z
    cases f with
    | next => obtain ⟨σ1, H1, J, q⟩ := z; exact wpAny_execs_nil ⟨σ1, H1, J.ofTry xok, q⟩
    | brk => obtain ⟨σ1, H1, J, q⟩ := z; exact ⟨σ1, H1, J.ofTry xok, q⟩
    | cont => obtain ⟨σ1, H1, J, q⟩ := z; exact ⟨σ1, H1, J.ofTry xok, q⟩
    | ret u => obtain ⟨v, σ1, H1, J, rv, q⟩ := z; exact ⟨v, σ1, H1, J.ofTry xok, rv, q⟩
  case taken =>
    intro u s1 xx
    obtain ⟨a, B, sI, pins', σ1, H1, cls, d, rfl, J', nb, up, sky, na, os, ag, F, m, st, r, x, wd, hr, rfl, rx, qh⟩ := xx
    have J : Inv X pins σ1 H1 sI := J'.ofTry xok
    have sky' : Sky B (X.env :: X.outer) a (Zc (.ref (L x.cls)) d) X.env.locals s1.heap := by rw [← hs]; exact sky
    show wpAny (model X.prog X.w) X.A (noteFrame (.ref a) X.env) _ _ _
    refine Sky.land Zc.steady frames hf sky' fun h3 fl3 up3 => ?_
    have J3 : Inv X pins σ1 H1 { s1 with heap := h3 } := J.landed nb fl3.1 (up.trans up3) os ag
    obtain ⟨oe3, vs3, he3, hz3, hd3⟩ := fl3.there
    have nfr : a ∉ frs (X.env :: X.outer) := fun hm => by
      obtain ⟨_, o', e', hnf⟩ := fl3.2.2.1.mem hm
      rw [he3] at e'; cases e'
      exact hnf _ hd3
    have nL : a ≠ X.env.locals := fun z => nfr (List.mem_filterMap.mpr ⟨X.env, List.mem_cons_self, by rw [hf, z]⟩)
    have nF : a ∉ X.fs := fun hm => by
      obtain ⟨e, he, q⟩ := List.mem_filterMap.mp hm
      exact nfr (List.mem_filterMap.mpr ⟨e, List.mem_cons_of_mem _ he, q⟩)
    have S3 := J3.suite he3 hd3 na nL nF
    have hlen : ∀ {i : Nat} {n : Str}, X.N[i]? = some n → i < σ1.length := fun {i n} e => by rw [J.len]; exact (List.getElem?_eq_some_iff.mp e).1
    have go : ∀ {hs' : List ExceptHandler} {cl' : List Clause}, HdsD X L hs' cl' → (hdsS T Qs x cl' r st).sat (wants X.K L W none F m H1 Dn) → wpAny (model X.prog X.w) X.A (handleBy (.ref a) X.env hs') (SP X pins Dn) X.xe { s1 with heap := h3 } := by
      intro hs' cl' hk
      -- the test of a clause
      have tested : ∀ {y : Str} {c : CD} {np : Pos} {bb : Bool} {Q : Bool → Shared → Prop} {E : Value → Shared → Prop}, Names X y (c.val L) → isSub T Qs x.cls c = some bb → Q bb { s1 with heap := h3 } →
          wpAny (model X.prog X.w) (X.A.mark (some (.ref a))) (eval (.Name y np) X.env) (fun cv s2 => wpAny (model X.prog X.w) (X.A.mark (some (.ref a))) (excMatches (.ref a) cv) Q E s2) E { s1 with heap := h3 } := by
        intro y c np bb Q E hc hb q
        obtain ⟨p, hp, hp1, hq, rfl⟩ := isSub_ok hb
        have em := ok.exm p hp c hq
        rw [hp1] at em
        have LT : PySem.W.Looks (model X.prog X.w) h3 (typeOf (.ref a)) (.ref (L x.cls)) := fun A Q E s k q => wpAny_typeOf_ref (k _ _ he3) (by rw [hz3.1]; exact q)
        have LM := PySem.W.exm_one (M := model X.prog X.w) J3.kIn LT em
        obtain ⟨hg, hdbg, hm | ⟨hm, hv, hnn⟩⟩ := hc
        · exact ld_glob (X := X.suite a ((a, oe3) :: (X.pn ++ pins))) S3 hg hm (LM.here q) hdbg
        · exact ld_blt (X := X.suite a ((a, oe3) :: (X.pn ++ pins))) S3 hg hm hv (LM.here q) hnn hdbg
      induction hk with
      | nil =>
        intro q
        refine wpAny_handleBy_nil ?_
        obtain ⟨k1, k2, k3, oe, vs, tb, otb, ts', he, hz, hd, h1, hrr⟩ := id fl3
        unfold PySem.passOn
        refine wpAny_bind (wpAny_field he hd h1 ?_)
        rw [if_neg (show ¬ ((Value.ref tb == Value.none) = true) from by simp)]
        have fin : wpAny (model X.prog X.w) X.A (setFlight (.ref a) X.env.frame) (fun _ s4 => wpAny (model X.prog X.w) X.A (throw (.ref a) : Sem Flow) (SP X pins Dn) X.xe s4) X.xe { s1 with heap := h3 } := by
          rw [hf]
          refine HandSPX.setFlight_upZ fl3 fun h4 hh4 up4 => wpAny_throw (tk _ _ ?_)
          refine ⟨a, B, sI, pins, σ1, H1, _, d, rfl, J, nb, (up.trans up3).trans up4, .inr (.inr (by rw [hs]; exact hh4)), na, os, ag, ?_⟩
          exact q F m H1 σ1 d .refl wd hr rx
        first
          | exact wpAny_bind (wpAny_pure (wpAny_bind fin))
          | exact wpAny_bind fin
      | @named y n c i sf b0 suite np pos' hds2 cl2 hc hi hln hsu rr ih =>
        intro q
        unfold hdsS at q
        dsimp only at q
        cases eb : isSub T Qs x.cls c with
        | none => rw [eb] at q; exact q.elim
        | some bb =>
          rw [eb] at q
          refine wpAny_handleBy_cons (codeAny_handlers_test (tested hc eb ?_)) (by intro z; cases z)
          cases bb with
          | false =>
            show wpAny _ X.A (handleBy (.ref a) X.env hds2) _ _ _
            exact ih q
          | true =>
            refine codeAny_handlers_suite_as (HandSPX.lands_againZ fl3 fun h4 fl4 up4 => ?_)
            have J4 : Inv X pins σ1 H1 { s1 with heap := h4 } := J.landed nb fl4.1 ((up.trans up3).trans up4) os ag
            obtain ⟨oe4, vs4, he4, hz4, hd4⟩ := fl4.there
            have S4 := J4.suite he4 hd4 na nL nF
            refine store_ok (X := X.suite a ((a, oe4) :: (X.pn ++ pins))) (v := .ref a) S4 hN hi (.inl hln) rfl (fun s5 S5 => ?_) (.inr hln)
            refine wpAny_mono ((hsu a oe4 d (X.pn ++ pins) x hz4 ⟨_, hd4⟩).run [] s5 _ H1 _ S5 (as_of wd hr (hlen hi) rx q)) (fun f s6 z => ?_) (fun _ _ z => z.elim)
            have ends : ∀ {σ6 : St} {H6 : Hp} {Qe : Shared → Prop}, Inv (X.suite a ((a, oe4) :: (X.pn ++ pins))) [] σ6 H6 s6 → (∀ s7, Inv X pins (σ6.set i none) H6 s7 → Qe s7) →
                wpAny (model X.prog X.w) X.A (do bindName X.env n .none; unbindBehindTheSuite X.env n pos') (fun _ s7 => Qe s7) X.xe s6 := fun {σ6 H6 Qe} S6 hq => gone_ok (S6.unsuite xok) hN hi hln hq
            cases f with
            | next => obtain ⟨σ6, H6, S6, q6⟩ := z; exact ends S6 fun s7 J7 => ⟨_, _, J7, q6⟩
            | brk => obtain ⟨σ6, H6, S6, q6⟩ := z; exact ends S6 fun s7 J7 => ⟨_, _, J7, q6⟩
            | cont => obtain ⟨σ6, H6, S6, q6⟩ := z; exact ends S6 fun s7 J7 => ⟨_, _, J7, q6⟩
            | ret u => obtain ⟨v6, σ6, H6, S6, r6, q6⟩ := z; exact ends S6 fun s7 J7 => ⟨_, _, _, J7, r6, q6⟩
      | @bare y c sf b0 suite np pos' hds2 cl2 hc hsu rr ih =>
        intro q
        unfold hdsS at q
        dsimp only at q
        cases eb : isSub T Qs x.cls c with
        | none => rw [eb] at q; exact q.elim
        | some bb =>
          rw [eb] at q
          refine wpAny_handleBy_cons (codeAny_handlers_test (tested hc eb ?_)) (by intro z; cases z)
          cases bb with
          | false =>
            show wpAny _ X.A (handleBy (.ref a) X.env hds2) _ _ _
            exact ih q
          | true =>
            refine codeAny_handlers_suite (HandSPX.lands_againZ fl3 fun h4 fl4 up4 => ?_)
            have J4 : Inv X pins σ1 H1 { s1 with heap := h4 } := J.landed nb fl4.1 ((up.trans up3).trans up4) os ag
            obtain ⟨oe4, vs4, he4, hz4, hd4⟩ := fl4.there
            have S4 := J4.suite he4 hd4 na nL nF
            refine wpAny_mono ((hsu a oe4 d (X.pn ++ pins) x hz4 ⟨_, hd4⟩).run [] _ _ H1 _ S4 (bare_of wd hr q)) (fun f s6 z => ?_) (fun _ _ z => z.elim)
            cases f with
            | next => obtain ⟨σ6, H6, S6, q6⟩ := z; exact ⟨_, _, S6.unsuite xok, q6⟩
            | brk => obtain ⟨σ6, H6, S6, q6⟩ := z; exact ⟨_, _, S6.unsuite xok, q6⟩
            | cont => obtain ⟨σ6, H6, S6, q6⟩ := z; exact ⟨_, _, S6.unsuite xok, q6⟩
            | ret u => obtain ⟨v6, σ6, H6, S6, r6, q6⟩ := z; exact ⟨_, _, _, S6.unsuite xok, r6, q6⟩
    exact go hh qh

/-! ### an error in a suite: its field, its classes -/
def excF (x : Ex) (c n : Str) : DX D := fun _ st => if x.cls = c then ofOpt (x.fs.lookup n) st else .bad
def excI (T : ExTab) (Qs : List CD) (x : Ex) (q : CD) : DX D := fun _ st => ofOpt ((isSub T Qs x.cls q).map .bl) st
def anySub (T : ExTab) (Qs : List CD) (c : Str) : List CD → Option Bool
  | [] => some false
  | q :: qs => match isSub T Qs c q, anySub T Qs c qs with
    | some b, some d => some (b || d)
    | _, _ => none
def excIs (T : ExTab) (Qs : List CD) (x : Ex) (qs : List CD) : DX D := fun _ st => ofOpt ((anySub T Qs x.cls qs).map .bl) st
theorem lookup_rep {K : PySem.W.Frag} {F : Hp} {m : List Addr} {n : Str} {d : D} : ∀ {fs : List (Str × D)} {vs : List (Str × V)}, RepFs K F m fs vs → fs.lookup n = some d → ∃ v, vs.lookup n = some v ∧ Rep K F m d v
  | [], _, _, e => by cases e
  | (f, y) :: fs, [], h, _ => by
    have := h.1
    simp at this
  | (f, y) :: fs, (g, v) :: vs, h, e => by
    obtain ⟨h1, h2⟩ := h
    simp only [List.map_cons, List.cons.injEq] at h1
    simp only [List.map_cons, Reps] at h2
    obtain ⟨v', r', e2, p, q⟩ := h2
    simp only [List.cons.injEq] at e2
    obtain ⟨rfl, rfl⟩ := e2
    obtain ⟨rfl, h1⟩ := h1
    simp only [List.lookup] at e ⊢
    cases hb : n == f with
    | true =>
      rw [hb] at e
      cases e
      exact ⟨v, rfl, p⟩
    | false =>
      rw [hb] at e
      exact lookup_rep ⟨h1, q⟩ e
theorem d_excF {a : Addr} {oe : Obj} {d : Option Addr} {pn : List (Addr × Obj)} {i : Nat} {xx : Ex} {e : Expr} {c n : Str} (TK : XfC X.K (L c)) (hno : PySem.W.findIn X.K (.ref (L c)) n = some none) (hz : Zc (.ref (L xx.cls)) d oe) (hf : ∃ vs, oe.data = .fields vs)
    (he : PE (X.suite a ((a, oe) :: pn)) e (tVar i)) (hb : attributeBase e n X.env (eval e X.env) = eval e X.env := by rfl) : PE (X.suite a ((a, oe) :: pn)) (.Attribute e n pos) (cE X.K L W0 (some ⟨i, a, xx, d⟩) (excF xx c n)) := by
  refine PEw (pe_xf TK hno hz hf he hb) fun s H Q ⟨F, m, st, r, w, hr, q⟩ => ?_
  obtain ⟨p1, p2, p3⟩ := hr.px _ rfl
  refine ⟨_, p1, rfl, ?_⟩
  unfold excF at q
  by_cases hcc : xx.cls = c
  · rw [if_pos hcc] at q
    obtain ⟨y, ey, q⟩ := ofOpt_sat q
    rcases p3 with ⟨p3, _⟩ | ⟨dx, vs, e1, e2, e3⟩
    · have p3 : xx.fs = [] := p3
      rw [p3] at ey; cases ey
    · obtain ⟨v, ev, rv⟩ := lookup_rep e3 ey
      exact ⟨by rw [hcc], dx, vs, v, e1, w.sub _ _ e2, ev, q F m H v .refl w rv⟩
  · rw [if_neg hcc] at q; exact q.elim
/-- a written list of things that are known -/
def tConsts (vs : List V) : TA := fun _ H Q => Q vs H
theorem pac_nil {Y : Cx} : PA Y [] (tConsts []) := PAw pa_nil fun _ _ _ q => q
theorem pac_cons {Y : Cx} {e : Expr} {es : List Expr} {v : V} {vs : List V} (h : PE Y e (tC v)) (r : PA Y es (tConsts vs)) (hs : starEach (e :: es) Y.env = (false, eval e Y.env) :: starEach es Y.env := by rfl) : PA Y (e :: es) (tConsts (v :: vs)) := PAw (pa_cons h r hs) fun _ _ _ q => q
theorem kitAny_of {K : PySem.W.Frag} {c : Str} (ok : ExOk K L T Qs) : ∀ {qs : List CD} {b : Bool}, anySub T Qs c qs = some b → PySem.W.kitAny K (.ref (L c)) (qs.map (CD.val L)) = some b
  | [], b, h => h
  | q :: qs, b, h => by
    unfold anySub at h
    split at h
    · rename_i b1 d1 e1 e2
      obtain ⟨p, hp, hp1, hq, rfl⟩ := isSub_ok e1
      cases h
      have k := ok.kit p hp q hq
      rw [hp1] at k
      refine kitAny_cons k (fun z => ?_) fun z => by rw [z]; rfl
      rw [z, Bool.false_or]
      exact kitAny_of ok e2
    · cases h
theorem exc_inst {a : Addr} {oe : Obj} {d : Option Addr} {pn pins : List (Addr × Obj)} {c : Str} {σ : St} {H : Hp} {s : Shared} (hz : Zc (.ref (L c)) d oe) (hf : ∃ vs, oe.data = .fields vs) (I : Inv (X.suite a ((a, oe) :: pn)) pins σ H s) (hd : ∀ dx, d = some dx → ∃ vs, H dx = some (.xd vs)) :
    ∃ od, PySem.W.InstAt s.heap a oe (L c) od := by
  obtain ⟨ha, _⟩ := I.pin (a, oe) (List.mem_append_left _ List.mem_cons_self)
  obtain ⟨vs, hdat⟩ := hf
  have nc : PySem.W.notCls oe = true := by unfold PySem.W.notCls; rw [hdat] <;> rfl
  cases d with
  | none => exact ⟨none, ha, hz.1, nc, by rw [hz.2]; trivial⟩
  | some dx =>
    obtain ⟨ws, e⟩ := hd dx rfl
    obtain ⟨mA, hns, _⟩ := (show ObjOk X.prog X.w H s.heap dx (.xd ws) from I.hok dx _ e)
    obtain ⟨od, ho, _⟩ := lookIn_ns hns
    exact ⟨some od, ha, hz.1, nc, by rw [hz.2]; exact ho⟩
theorem call_isX {a : Addr} {oe : Obj} {d : Option Addr} {pn : List (Addr × Obj)} {xx : Ex} {q : CD} {b : Bool} (ok : ExOk X.K L T Qs) (hz : Zc (.ref (L xx.cls)) d oe) (hf : ∃ vs, oe.data = .fields vs) (hb : isSub T Qs xx.cls q = some b) :
    CallR (X.suite a ((a, oe) :: pn)) (.builtin "isinstance") (fun xs H Q => xs = [.ref a, q.v L] ∧ (∀ dx, d = some dx → ∃ vs, H dx = some (.xd vs)) ∧ Q (.bl b) H) := by
  intro pins s σ H xs us Q I r ⟨e, hd, hq⟩
  subst e
  obtain ⟨u1, u2, rfl, r1, r2⟩ := vals2 r
  cases r1
  obtain rfl := (cd_cls L q).eq r2
  obtain ⟨od, J⟩ := exc_inst hz hf I hd
  obtain ⟨p, hp, hp1, hqs, rfl⟩ := isSub_ok hb
  have E := ok.cls p hp
  have k := ok.kit p hp q hqs
  rw [hp1] at E k
  exact PySem.W.kia_one (PySem.W.kitx_exc E.cl E.ga E.gg E.sb E.ha E.hn E.ht E.hm) I.kIn J k (fun z => nomatch z) fun tk => ⟨.bl _, H, I.kept (t' := tk) fun _ _ z => z, rfl, hq⟩
theorem call_isXs {a : Addr} {oe : Obj} {d : Option Addr} {pn : List (Addr × Obj)} {xx : Ex} {qs : List CD} {b : Bool} (ok : ExOk X.K L T Qs) (hz : Zc (.ref (L xx.cls)) d oe) (hf : ∃ vs, oe.data = .fields vs) (hb : anySub T Qs xx.cls qs = some b) (hne : qs ≠ []) :
    CallR (X.suite a ((a, oe) :: pn)) (.builtin "isinstance") (fun xs H Q => ∃ tp, xs = [.ref a, .ref tp] ∧ H tp = some (.tup (qs.map (CD.v L))) ∧ (∀ dx, d = some dx → ∃ vs, H dx = some (.xd vs)) ∧ Q (.bl b) H) := by
  intro pins s σ H xs us Q I r ⟨tp, e, ht, hd, hq⟩
  subst e
  obtain ⟨u1, u2, rfl, r1, r2⟩ := vals2 r
  cases r1
  cases (show u2 = Value.ref tp from r2)
  obtain ⟨od, J⟩ := exc_inst hz hf I hd
  obtain ⟨_, its, rv, o, h1, h2, n, h3⟩ := (show ObjOk X.prog X.w H s.heap tp (.tup (qs.map (CD.v L))) from I.hok tp _ ht)
  have pc : ∀ l : List CD, Paired ClsV (l.map (CD.v L)) (l.map (CD.val L)) := by
    intro l
    induction l with
    | nil => exact .nil
    | cons q l ih => exact .cons (cd_cls L q) ih
  have e3 := ClsV.all (pc qs) rv
  subst e3
  obtain ⟨oc, od', dt, sl⟩ := o
  simp only at h2 h3
  subst h2 h3
  have known : ∃ p ∈ T, p.1 = xx.cls := by
    cases qs with
    | nil => exact absurd rfl hne
    | cons q qs =>
      unfold anySub at hb
      split at hb
      · rename_i b1 d1 e1 e2
        obtain ⟨p, hp, hp1, _⟩ := isSub_ok e1
        exact ⟨p, hp, hp1⟩
      · cases hb
  obtain ⟨p, hp, hp1⟩ := known
  have E := ok.cls p hp
  rw [hp1] at E
  exact PySem.W.kia_tup (PySem.W.kitx_exc E.cl E.ga E.gg E.sb E.ha E.hn E.ht E.hm) I.kIn J h1 (kitAny_of ok hb) (fun z => nomatch z) fun tk => ⟨.bl b, H, I.kept (t' := tk) fun _ _ z => z, rfl, hq⟩
theorem px_xd {K : PySem.W.Frag} {F : Hp} {m : List Addr} {st : Sto} {H : Hp} {x : Ex} {d : Option Addr} (w : Wd K L F m st H) (h : RepX K F m x d) : ∀ dx, d = some dx → ∃ vs, H dx = some (.xd vs) := by
  intro dx e
  rcases h with ⟨_, h⟩ | ⟨dy, vs, e1, e2, _⟩
  · rw [h] at e; cases e
  · rw [e] at e1
    cases e1
    exact ⟨vs, w.sub _ _ e2⟩
theorem d_excI {a : Addr} {oe : Obj} {d : Option Addr} {pn : List (Addr × Obj)} {i : Nat} {xx : Ex} {e ec : Expr} {q : CD} {p : Pos} (ok : ExOk X.K L T Qs) (hz : Zc (.ref (L xx.cls)) d oe) (hf : ∃ vs, oe.data = .fields vs) (hg : Gl (X.suite a ((a, oe) :: pn)) "isinstance") (hm : X.mg "isinstance" = none)
    (hv : bootBuiltins "isinstance" = some (.builtin "isinstance")) (he : PE (X.suite a ((a, oe) :: pn)) e (tVar i)) (hc : PE (X.suite a ((a, oe) :: pn)) ec (tC (q.v L)))
    (h1 : starEach (e :: [ec]) X.env = (false, eval e X.env) :: starEach [ec] X.env := by rfl) (h2 : starEach (ec :: []) X.env = (false, eval ec X.env) :: starEach [] X.env := by rfl) (hpl : (backTo pos (starEach [ec] X.env)).any (·.1) = false := by rfl) :
    PE (X.suite a ((a, oe) :: pn)) (.Call (.Name "isinstance" p) [e, ec] [] pos) (cE X.K L W0 (some ⟨i, a, xx, d⟩) (excI T Qs xx q)) := by
  constructor
  intro pins s σ H Q I ⟨F, m, st, r, w, hr, h⟩
  obtain ⟨y, ey, h⟩ := ofOpt_sat h
  cases eb : isSub T Qs xx.cls q with
  | none => rw [eb] at ey; cases ey
  | some b =>
    rw [eb] at ey
    cases ey
    obtain ⟨p1, p2, p3⟩ := hr.px _ rfl
    have key := pe_callB (X := X.suite a ((a, oe) :: pn)) (x := "isinstance") (p := p) (pos := pos) (call_isX ok hz hf eb) hg hm hv (pa_cons he (pa_cons hc pa_nil h2) h1) (by decide) (by decide) h1 hpl
    exact key.run pins s σ H Q I ⟨_, p1, rfl, px_xd w p3, h F m H _ .refl w rfl⟩
theorem d_excIs {a : Addr} {oe : Obj} {d : Option Addr} {pn : List (Addr × Obj)} {i : Nat} {xx : Ex} {e : Expr} {ecs : List Expr} {qs : List CD} {k : Nat} {p p2 : Pos} (ok : ExOk X.K L T Qs) (hz : Zc (.ref (L xx.cls)) d oe) (hf : ∃ vs, oe.data = .fields vs) (hg : Gl (X.suite a ((a, oe) :: pn)) "isinstance") (hm : X.mg "isinstance" = none)
    (hv : bootBuiltins "isinstance" = some (.builtin "isinstance")) (hne : qs ≠ []) (hl : qs.length ≤ 1000) (he : PE (X.suite a ((a, oe) :: pn)) e (tVar i)) (hc : PA (X.suite a ((a, oe) :: pn)) ecs (tConsts (qs.map (CD.v L))))
    (h1 : starEach (e :: [.Tuple ecs k p2]) X.env = (false, eval e X.env) :: starEach [.Tuple ecs k p2] X.env := by rfl) (h2 : starEach (.Tuple ecs k p2 :: []) X.env = (false, eval (.Tuple ecs k p2) X.env) :: starEach [] X.env := by rfl) (hpl : (backTo pos (starEach [.Tuple ecs k p2] X.env)).any (·.1) = false := by rfl) :
    PE (X.suite a ((a, oe) :: pn)) (.Call (.Name "isinstance" p) [e, .Tuple ecs k p2] [] pos) (cE X.K L W0 (some ⟨i, a, xx, d⟩) (excIs T Qs xx qs)) := by
  constructor
  intro pins s σ H Q I ⟨F, m, st, r, w, hr, h⟩
  obtain ⟨y, ey, h⟩ := ofOpt_sat h
  cases eb : anySub T Qs xx.cls qs with
  | none => rw [eb] at ey; cases ey
  | some b =>
    rw [eb] at ey
    cases ey
    obtain ⟨p1, p2, p3⟩ := hr.px _ rfl
    have key := pe_callB (X := X.suite a ((a, oe) :: pn)) (x := "isinstance") (p := p) (pos := pos) (call_isXs ok hz hf eb hne) hg hm hv (pa_cons he (pa_cons (pe_tup hc) pa_nil h2) h1) (by decide) (by decide) h1 hpl
    refine key.run pins s σ H Q I ⟨_, p1, by simp [sizeLine_eq]; omega, fun tp htp => ⟨tp, rfl, upd_same, ?_, ?_⟩⟩
    · intro dx ed
      obtain ⟨vs, ev⟩ := px_xd w p3 dx ed
      exact ⟨vs, by rw [upd_ne (ne_of_none ev htp)]; exact ev⟩
    · exact h _ m _ (.bl b) (Ext.froze (w.new_F htp) htp) (w.froze htp) rfl
end
end DL
set_option Elab.async false
set_option linter.all false
set_option maxRecDepth 100000
set_option autoImplicit false
namespace DL
open PySem PySem.Spec L2
/-! ### operations on values -/
/-- a list's items, wherever it stands -/
def seqL (st : Sto) (d : D) : Option (List D) :=
  match d with
  | .lst xs => some xs
  | .ref i => match st[i]? with
    | some (.lst xs) => some xs
    | _ => none
  | .scr ns => some (ns.map .int)
  | _ => none
def seqT (d : D) : Option (List D) :=
  match d with
  | .tup xs => some xs
  | _ => none
def seqA (st : Sto) (d : D) : Option (List D) := (seqT d).or (seqL st d)
section
variable {K : PySem.W.Frag} {L : Str → Addr} {F : Hp} {m : List Addr} {st : Sto} {H : Hp}
theorem Reps.ints : ∀ (ns : List Int), Reps K F m (ns.map .int) (ns.map V.int)
  | [] => rfl
  | n :: ns => ⟨_, _, rfl, rfl, Reps.ints ns⟩
theorem seqL_rep {d : D} {v : V} {xs : List D} (w : Wd K L F m st H) (h : Rep K F m d v) (e : seqL st d = some xs) : ∃ a vs, v = .ref a ∧ SqL K H a vs ∧ Reps K F m xs vs := by
  cases d with
  | lst ys =>
    cases e
    obtain ⟨a, vs, h1, h2, h3⟩ := h
    exact ⟨a, vs, h1, .inl (.inl (w.sub _ _ h2)), h3⟩
  | ref i =>
    obtain ⟨a, h1, h2⟩ := h
    obtain ⟨o, u, e1, e2, e3⟩ := w.at_ i a h2
    simp only [seqL, e1] at e
    cases o with
    | lst ys =>
      cases e
      obtain ⟨vs, rfl, r⟩ := e3
      exact ⟨a, vs, h1, .inl (.inl e2), r⟩
    | _ => cases e
  | scr ns =>
    cases e
    obtain ⟨a, h1, h2⟩ := h
    exact ⟨a, _, h1, Same.seq w.sub h2, Reps.ints ns⟩
  | _ => cases e
theorem seqT_rep {d : D} {v : V} {xs : List D} (w : Wd K L F m st H) (h : Rep K F m d v) (e : seqT d = some xs) : ∃ a vs, v = .ref a ∧ SqT K H a vs ∧ H a = some (.tup vs) ∧ Reps K F m xs vs := by
  cases d with
  | tup ys =>
    cases e
    obtain ⟨a, vs, h1, h2, h3⟩ := h
    exact ⟨a, vs, h1, .inl (.inl (w.sub _ _ h2)), w.sub _ _ h2, h3⟩
  | _ => cases e
theorem seqA_rep {d : D} {v : V} {xs : List D} (w : Wd K L F m st H) (h : Rep K F m d v) (e : seqA st d = some xs) : ∃ a vs, v = .ref a ∧ (SqL K H a vs ∨ SqT K H a vs) ∧ Reps K F m xs vs := by
  unfold seqA at e
  cases e1 : seqT d with
  | some ys =>
    rw [e1] at e
    cases e
    obtain ⟨a, vs, h1, h2, _, h3⟩ := seqT_rep w h e1
    exact ⟨a, vs, h1, .inr h2, h3⟩
  | none =>
    rw [e1] at e
    obtain ⟨a, vs, h1, h2, h3⟩ := seqL_rep w h e
    exact ⟨a, vs, h1, .inl h2, h3⟩
end

/-! ints -/
def i2 (C : Int → Int → Bool) (g : Int → Int → D) : Sto → D → D → Option D := fun _ x y =>
  match x, y with
  | .int i, .int j => if C i j = true then some (g i j) else none
  | _, _ => none
theorem Ref2.int {K : PySem.W.Frag} {L : Str → Addr} {C : Int → Int → Bool} {C' : Int → Int → Prop} {g : Int → Int → D} {g' : Int → Int → V} (hC : ∀ i j, C i j = true → C' i j) (hg : ∀ i j F m, Rep K F m (g i j) (g' i j)) : Ref2 K L (rI C' g') (i2 C g) := by
  intro F m st H x y v u z Q w rx ry e q
  unfold i2 at e
  split at e
  · rename_i i j
    split at e
    · rename_i c
      cases e
      exact ⟨i, j, rx, ry, hC _ _ c, q F m H _ .refl w (hg i j F m)⟩
    · cases e
  · cases e
theorem Ref2.int0 {K : PySem.W.Frag} {L : Str → Addr} {g : Int → Int → D} {g' : Int → Int → V} (hg : ∀ i j F m, Rep K F m (g i j) (g' i j)) : Ref2 K L (rI0 g') (i2 (fun _ _ => true) g) := by
  intro F m st H x y v u z Q w rx ry e q
  unfold i2 at e
  split at e
  · rename_i i j
    cases e
    exact ⟨i, j, rx, ry, q F m H _ .refl w (hg i j F m)⟩
  · cases e
def yes2 (_ _ : Int) : Bool := true
def small64 (i : Int) : Bool := decide (-(2 ^ 64) < i) && decide (i < 2 ^ 64)
def cMul (i j : Int) : Bool := small64 i || small64 j
def cDiv (_ j : Int) : Bool := decide (0 < j) && decide (j.natAbs.log2 < 9000)
def cMod (_ j : Int) : Bool := decide (0 < j)
def cPow (i j : Int) : Bool := decide (0 ≤ j) && decide (j ≤ 1000000) && decide (i.natAbs < 2 ^ 64)
def dInt (f : Int → Int → Int) (i j : Int) : D := .int (f i j)
def dBl (f : Int → Int → Bool) (i j : Int) : D := .bl (f i j)
def subD := i2 yes2 fun i j => .int (i - j)
def fdivD := i2 cDiv fun i j => .int (i / j)
def modD := i2 cMod fun i j => .int (i % j)
def powD := i2 cPow fun i j => .int (i ^ j.toNat)
def ltD := i2 yes2 fun i j => .bl (decide (i < j))
def leD := i2 yes2 fun i j => .bl (decide (i ≤ j))
def gtD := i2 yes2 fun i j => .bl (decide (j < i))
def geD := i2 yes2 fun i j => .bl (decide (j ≤ i))
def addI := i2 yes2 fun i j => .int (i + j)
def mulI := i2 cMul fun i j => .int (i * j)
def negD : Sto → D → Option D := fun _ x =>
  match x with
  | .int i => some (.int (-i))
  | _ => none
section
variable {K : PySem.W.Frag} {L : Str → Addr}
theorem r_sub : Ref2 K L (rI0 fun i j => .int (i - j)) subD := Ref2.int0 fun _ _ _ _ => rfl
theorem r_addI : Ref2 K L (rI0 fun i j => .int (i + j)) addI := Ref2.int0 fun _ _ _ _ => rfl
theorem r_lt : Ref2 K L (rI0 fun i j => .bl (decide (i < j))) ltD := Ref2.int0 fun _ _ _ _ => rfl
theorem r_le : Ref2 K L (rI0 fun i j => .bl (decide (i ≤ j))) leD := Ref2.int0 fun _ _ _ _ => rfl
theorem r_gt : Ref2 K L (rI0 fun i j => .bl (decide (j < i))) gtD := Ref2.int0 fun _ _ _ _ => rfl
theorem r_ge : Ref2 K L (rI0 fun i j => .bl (decide (j ≤ i))) geD := Ref2.int0 fun _ _ _ _ => rfl
theorem r_fdiv : Ref2 K L (rI CDivW fun i j => .int (i / j)) fdivD := Ref2.int (fun i j h => by
  simp only [cDiv, Bool.and_eq_true, decide_eq_true_eq] at h
  exact h) fun _ _ _ _ => rfl
theorem r_mod : Ref2 K L (rI (fun _ j => 0 < j) fun i j => .int (i % j)) modD := Ref2.int (fun i j h => of_decide_eq_true h) fun _ _ _ _ => rfl
theorem r_pow : Ref2 K L (rI CPow fun i j => .int (i ^ j.toNat)) powD := Ref2.int (fun i j h => by
  simp only [cPow, Bool.and_eq_true, decide_eq_true_eq] at h
  exact ⟨h.1.1, h.1.2, h.2⟩) fun _ _ _ _ => rfl
theorem r_mulI : Ref2 K L (rI CMul fun i j => .int (i * j)) mulI := Ref2.int (fun i j h => by
  simp only [cMul, small64, Bool.or_eq_true, Bool.and_eq_true, decide_eq_true_eq] at h
  exact h) fun _ _ _ _ => rfl
theorem r_neg : Ref1 K L (rU fun i => .int (-i)) negD := by
  intro F m st H x v y Q w rx e q
  unfold negD at e
  split at e
  · cases e
    exact ⟨_, rx, q F m H _ .refl w rfl⟩
  · cases e
end

/-! + -/
def addS : Sto → D → D → Option D := fun _ x y =>
  match x, y with
  | .str a, .str b => if big (a.length + b.length) = true then some (.str (a ++ b)) else none
  | _, _ => none
def addT : Sto → D → D → Option D := fun _ x y =>
  match x, y with
  | .tup a, .tup b => if big (a.length + b.length) = true then some (.tup (a ++ b)) else none
  | _, _ => none
def addL : Sto → D → D → Option D := fun st x y =>
  match listAt st x, listAt st y with
  | some a, some b => if big (a.length + b.length) = true then some (.lst (a ++ b)) else none
  | _, _ => none
def addD : Sto → D → D → Option D := fun st x y => (addI st x y).or ((addS st x y).or ((addT st x y).or (addL st x y)))
def rAddX (K : PySem.W.Frag) : R2 := fun x y H Q => rI0 (fun i j => .int (i + j)) x y H Q ∨ (∃ i j, x = .str i ∧ y = .str j ∧ i.length + j.length ≤ sizeLine ∧ Q (.str (i ++ j)) H) ∨ rCatA K x y H Q ∨ rCat x y H Q
theorem Reps.app2 {K : PySem.W.Frag} {F : Hp} {m : List Addr} : ∀ {xs ys : List D} {vs us : List V}, Reps K F m xs vs → Reps K F m ys us → Reps K F m (xs ++ ys) (vs ++ us)
  | [], _, vs, us, h, r => by
    simp only [Reps] at h
    rw [h]; exact r
  | d :: ds, ys, vs, us, h, r => by
    simp only [Reps] at h
    obtain ⟨v, t, rfl, p, q⟩ := h
    exact ⟨v, t ++ us, rfl, p, Reps.app2 q r⟩
section
variable {K : PySem.W.Frag} {L : Str → Addr}
theorem r_addS : Ref2 K L (fun x y H Q => ∃ i j, x = .str i ∧ y = .str j ∧ i.length + j.length ≤ sizeLine ∧ Q (.str (i ++ j)) H) addS := by
  intro F m st H x y v u z Q w rx ry e q
  unfold addS at e
  split at e
  · rename_i a b
    split at e
    · rename_i c
      cases e
      exact ⟨a, b, rx, ry, big_line c, q F m H _ .refl w rfl⟩
    · cases e
  · cases e
theorem r_addT : Ref2 K L (rCatA K) addT := by
  intro F m st H x y v u z Q w rx ry e q
  unfold addT at e
  split at e
  · rename_i xs ys
    split at e
    · rename_i c
      cases e
      obtain ⟨a, vs, rfl, h1, h2, h3⟩ := seqT_rep w rx (xs := xs) rfl
      obtain ⟨b, us, rfl, k1, k2, k3⟩ := seqT_rep w ry (xs := ys) rfl
      have l1 := Reps.length h3
      have l2 := Reps.length k3
      refine ⟨a, b, vs, us, rfl, rfl, h1, k1, by rw [l1, l2]; exact big_line c, fun e => ?_, fun e e2 => ?_, fun _ _ p hp => ?_⟩
      · subst e
        have : xs = [] := List.eq_nil_of_length_eq_zero l1.symm
        subst this
        exact q F m H _ .refl w ry
      · subst e2
        have : ys = [] := List.eq_nil_of_length_eq_zero l2.symm
        subst this
        rw [List.append_nil] at q
        exact q F m H _ .refl w rx
      · exact frozen_tup w (Reps.app2 h3 k3) q p hp
    · cases e
  · cases e
theorem r_addL : Ref2 K L rCat addL := by
  intro F m st H x y v u z Q w rx ry e q
  unfold addL at e
  split at e
  · rename_i xs ys ex ey
    split at e
    · rename_i c
      cases e
      obtain ⟨a, vs, rfl, h1, h3⟩ := listAt_rep w rx ex
      obtain ⟨b, us, rfl, k1, k3⟩ := listAt_rep w ry ey
      exact ⟨a, b, vs, us, rfl, rfl, h1, k1, by rw [Reps.length h3, Reps.length k3]; exact big_line c, fun p hp => frozen_lst w (Reps.app2 h3 k3) q p hp⟩
    · cases e
  · cases e
theorem r_add : Ref2 K L (rAddX K) addD := r_addI.or (r_addS.or (r_addT.or r_addL))
theorem o_add {X : Cx} : OpR X (binaryOp .Add) (rAddX X.K) := op_add.or (op_add_str.or (op_catA.or op_cat))
end

/-! * -/
def mulL : Sto → D → D → Option D := fun st x y =>
  match listAt st x, y with
  | some a, .int k => if (decide (-(2 ^ 63) ≤ k) && decide (k < 2 ^ 63) && big (a.length * k.toNat)) = true then some (.lst (List.replicate k.toNat a).flatten) else none
  | _, _ => none
theorem Reps.rep {K : PySem.W.Frag} {F : Hp} {m : List Addr} {xs : List D} {vs : List V} (h : Reps K F m xs vs) : ∀ n : Nat, Reps K F m (List.replicate n xs).flatten (List.replicate n vs).flatten
  | 0 => rfl
  | n + 1 => by
    simp only [List.replicate_succ, List.flatten_cons]
    exact Reps.app2 h (Reps.rep h n)
end DL
set_option Elab.async false
set_option linter.all false
set_option maxRecDepth 100000
set_option autoImplicit false
set_option maxHeartbeats 2000000
namespace DL
open PySem PySem.Spec L2 PyProof.Rows
/-! ### a tuple, once -/
theorem tup_once (l : Addr) (items : Array Value) (n : Nat) (dd : Option Addr) (sl : Array (Option Value)) (u : Tok) :
    Meets (Builtin.«tuple.__mul__» ⟨[.ref l, .int 1 u], []⟩) (fun _ R s => s.heap.get? l = some { cls := .type "tuple", dict := dd, data := .seq items n, slots := sl } ∧ R (.ok (.ret (Value.ref l))) s) :=
  .of_wp fun prog w A R s h => by
    obtain ⟨hp, g, d, tk, os⟩ := s
    obtain ⟨hl, h⟩ := h
    have f1 := AutoSeq1.idx_int
    wp_walk using wpAny_loadPart' hl
    exact ⟨_, rfl, h⟩
def rOnce (K : PySem.W.Frag) : R2 := fun x y H Q => ∃ l xs, x = .ref l ∧ y = .int 1 ∧ SqT K H l xs ∧ Q (.ref l) H
theorem op_once {X : Cx} : OpR X (binaryOp .Mult) (rOnce X.K) := by
  intro pins s σ H x y v u Q I rx ry h
  obtain ⟨l, xs, rfl, rfl, hT, q⟩ := h
  cases rx
  obtain ⟨t, rfl⟩ := ry
  obtain ⟨its, r, ⟨⟨cls, dd, data, sl⟩, ho, hc, n, hd⟩, hs⟩ := I.tuple hT
  simp only at hc hd
  subst hc hd
  refine wpAny_binaryOp_repeat_ref (T := "tuple") (U := "int") (by decide) ⟨_, ho, rfl⟩ (fun s' => typeIs_int s' 1 t) noFill_tuple_mul F.fills_int_mul F.slot_int_rmul repeat_tuple F.slot_int_index.lookup
    (call_meets F.slot_int_rmul (typeIs_int s 1 t) F.entry_int_rmul (F.args_int_rmul_2 _ _) (int_rmul_tuple 1 t l its.toArray n dd sl)
      ⟨ho, rfl, ⟨_, ho, rfl⟩, call_meets F.slot_tuple_mul ⟨_, ho, rfl⟩ F.entry_tuple_mul (F.args_tuple_mul_2 _ _) (tup_once l its.toArray n dd sl t) ⟨ho, ?_⟩⟩)
  exact ⟨.ref l, H, I, rfl, q⟩
def mulT : Sto → D → D → Option D := fun _ x y =>
  match x, y with
  | .tup xs, .int k => if (decide (xs ≠ []) && decide (2 ≤ k) && decide (k ≤ 1000) && decide (xs.length ≤ 1000)) = true then some (.tup (List.replicate k.toNat xs).flatten) else none
  | _, _ => none
def mulT1 : Sto → D → D → Option D := fun _ x y =>
  match x, y with
  | .tup xs, .int k => if decide (k = 1) = true then some (.tup xs) else none
  | _, _ => none
/-! ### a tuple, no times -/
theorem tup_zero (l : Addr) (items : Array Value) (n : Nat) (dd : Option Addr) (sl : Array (Option Value)) (u : Tok) (c1 : items.isEmpty = false) :
    Meets (Builtin.«tuple.__mul__» ⟨[.ref l, .int 0 u], []⟩) (fun _ R s => s.heap.get? l = some { cls := .type "tuple", dict := dd, data := .seq items n, slots := sl } ∧ R (.ok (.ret (Value.ref s.heap.objs.size))) { s with heap := s.heap.push { cls := Value.type "tuple", data := Data.seq #[] }, toks := s.toks }) :=
  .of_wp fun prog w A R s h => by
    obtain ⟨hp, g, d, tk, os⟩ := s
    obtain ⟨hl, h⟩ := h
    have f1 := AutoSeq1.idx_int
    wp_walk using wpAny_loadPart' hl
    repeat (first
      | (refine wpAny_ite_false (decide_eq_false (by rw [c1]; exact Bool.false_ne_true)) ?_; wp_walk using wpAny_loadPart' hl)
      | (refine wpAny_ite_true (decide_eq_true (by rfl)) ?_; wp_walk using wpAny_loadPart' hl))
    exact ⟨_, rfl, h⟩
def rNone (K : PySem.W.Frag) : R2 := fun x y H Q => ∃ l xs, x = .ref l ∧ y = .int 0 ∧ SqT K H l xs ∧ xs ≠ [] ∧ ∀ p, H p = none → Q (.ref p) (upd H p (.tup []))
theorem op_none {X : Cx} : OpR X (binaryOp .Mult) (rNone X.K) := by
  intro pins s σ H x y v u Q I rx ry h
  obtain ⟨l, xs, rfl, rfl, hT, hne, q⟩ := h
  cases rx
  obtain ⟨t, rfl⟩ := ry
  obtain ⟨its, r, ⟨⟨cls, dd, data, sl⟩, ho, hc, n, hd⟩, hs⟩ := I.tuple hT
  simp only at hc hd
  subst hc hd
  have hi : its.toArray.isEmpty = false := by
    cases its with
    | nil => exact absurd (List.eq_nil_of_length_eq_zero (by rw [r.length]; rfl)) hne
    | cons a b => rfl
  refine wpAny_binaryOp_repeat_ref (T := "tuple") (U := "int") (by decide) ⟨_, ho, rfl⟩ (fun s' => typeIs_int s' 0 t) noFill_tuple_mul F.fills_int_mul F.slot_int_rmul repeat_tuple F.slot_int_index.lookup
    (call_meets F.slot_int_rmul (typeIs_int s 0 t) F.entry_int_rmul (F.args_int_rmul_2 _ _) (int_rmul_tuple 0 t l its.toArray n dd sl)
      ⟨ho, rfl, ⟨_, ho, rfl⟩, call_meets F.slot_tuple_mul ⟨_, ho, rfl⟩ F.entry_tuple_mul (F.args_tuple_mul_2 _ _) (tup_zero l its.toArray n dd sl t hi) ⟨ho, ?_⟩⟩)
  have hf : H s.heap.objs.size = none := I.hok.fresh (Nat.le_refl _)
  refine ⟨.ref s.heap.objs.size, upd H s.heap.objs.size (.tup []), I.laid (t' := s.toks) (fun b u e => Heap.get?_push_of_some _ e) (Nat.le_refl _) ?_, rfl, q _ hf⟩
  exact ⟨by decide, [], .nil, ⟨_, Heap.get?_push_size _ rfl, rfl, _, rfl⟩⟩
/-- a text, some times -/
def repS (s : Str) (k : Int) : Str := if k < 1 then Str.empty else if (k == 1 || s.length == 0) = true then s else ⟨(List.replicate k.toNat s.cps).foldl (· ++ ·) #[]⟩
def rTimes : R2 := fun x y H Q => ∃ s k, x = .str s ∧ y = .int k ∧ -(2 ^ 63) ≤ k ∧ k < 2 ^ 63 ∧ s.length * k.toNat ≤ 1000000 ∧ (repS s k).length ≤ 1000000 ∧ Q (.str (repS s k)) H
theorem op_times {X : Cx} : OpR X (binaryOp .Mult) rTimes := by
  intro pins s σ H x y v u Q I rx ry h
  obtain ⟨a, k, rfl, rfl, h1, h2, h3, h4, q⟩ := h
  obtain ⟨t, rfl⟩ := rx
  obtain ⟨t2, rfl⟩ := ry
  have tl : ∀ n : Nat, n ≤ 1000000 → Builtin.Str.tooLong n = false := fun n hn => by
    unfold Builtin.Str.tooLong
    exact decide_eq_false (by rw [sizeLine_eq]; omega)
  refine P.mul_str (by rw [decide_eq_false (by omega), decide_eq_false (by omega)]; rfl) (fun c _ => ?_) (fun _ _ => tl _ h3) ?_
  · have hk : 1 ≤ k := by omega
    obtain ⟨j, rfl⟩ := Int.eq_ofNat_of_zero_le (show 0 ≤ k by omega)
    have hj : Int.toNat (j : Int) = j := Int.toNat_natCast j
    rw [hj] at h3
    have : (a.length : Int) * (j : Int) ≤ 2 ^ 63 - 1 := by
      have : ((a.length * j : Nat) : Int) ≤ 1000000 := by omega
      rw [Int.natCast_mul] at this
      omega
    have := (Int.le_ediv_iff_mul_le (c := (j : Int)) (by omega)).mpr this
    omega
  · unfold repS at h4 q
    by_cases c : k < 1
    · rw [if_pos c] at h4 q ⊢
      exact ⟨by decide, .str Str.empty, H, I.tok _, ⟨_, rfl⟩, q⟩
    · rw [if_neg c] at h4 q ⊢
      by_cases c2 : (k == 1 || a.length == 0) = true
      · rw [if_pos c2] at h4 q ⊢
        exact ⟨.str a, H, I, ⟨_, rfl⟩, q⟩
      · rw [if_neg c2] at h4 q ⊢
        exact ⟨by rw [sizeLine_eq]; omega, .str _, H, I.tok _, ⟨_, rfl⟩, q⟩
def mulT0 : Sto → D → D → Option D := fun _ x y =>
  match x, y with
  | .tup xs, .int k => if (decide (k = 0) && decide (xs ≠ [])) = true then some (.tup []) else none
  | _, _ => none
def mulS : Sto → D → D → Option D := fun _ x y =>
  match x, y with
  | .str s, .int k => if (decide (-(2 ^ 63) ≤ k) && decide (k < 2 ^ 63) && decide (s.length * k.toNat ≤ 1000000) && decide ((repS s k).length ≤ 1000000)) = true then some (.str (repS s k)) else none
  | _, _ => none
def mulD : Sto → D → D → Option D := fun st x y => (mulI st x y).or ((mulL st x y).or ((mulT st x y).or ((mulT1 st x y).or ((mulT0 st x y).or (mulS st x y)))))
def rMulX (K : PySem.W.Frag) : R2 := fun x y H Q => rI CMul (fun i j => .int (i * j)) x y H Q ∨ rRep x y H Q ∨ rRepT K x y H Q ∨ rOnce K x y H Q ∨ rNone K x y H Q ∨ rTimes x y H Q
section
variable {K : PySem.W.Frag} {L : Str → Addr}
theorem r_mulL : Ref2 K L rRep mulL := by
  intro F m st H x y v u z Q w rx ry e q
  unfold mulL at e
  split at e
  · rename_i xs k ex
    split at e
    · rename_i c
      cases e
      simp only [Bool.and_eq_true, decide_eq_true_eq] at c
      obtain ⟨a, vs, rfl, h1, h3⟩ := listAt_rep w rx ex
      exact ⟨a, k, vs, rfl, ry, h1, c.1.1, c.1.2, by rw [Reps.length h3]; exact big_line c.2, fun p hp => frozen_lst w (Reps.rep h3 _) q p hp⟩
    · cases e
  · cases e
theorem r_mulT : Ref2 K L (rRepT K) mulT := by
  intro F m st H x y v u z Q w rx ry e q
  unfold mulT at e
  split at e
  · rename_i xs k
    split at e
    · rename_i c
      cases e
      simp only [Bool.and_eq_true, decide_eq_true_eq] at c
      obtain ⟨a, vs, rfl, h1, _, h3⟩ := seqT_rep w rx (xs := xs) rfl
      have l1 := Reps.length h3
      exact ⟨a, k, vs, rfl, ry, h1, fun e => c.1.1.1 (List.eq_nil_of_length_eq_zero (by rw [← l1, e]; rfl)), c.1.1.2, c.1.2, by rw [l1]; exact c.2, fun p hp => frozen_tup w (Reps.rep h3 _) q p hp⟩
    · cases e
  · cases e
theorem r_mulT1 : Ref2 K L (rOnce K) mulT1 := by
  intro F m st H x y v u z Q w rx ry e q
  unfold mulT1 at e
  split at e
  · rename_i xs k
    split at e
    · rename_i c
      cases e
      have c := of_decide_eq_true c
      subst c
      obtain ⟨a, vs, rfl, h1, _, h3⟩ := seqT_rep w rx (xs := xs) rfl
      exact ⟨a, vs, rfl, ry, h1, q F m H _ .refl w rx⟩
    · cases e
  · cases e
theorem r_mulT0 : Ref2 K L (rNone K) mulT0 := by
  intro F m st H x y v u z Q w rx ry e q
  unfold mulT0 at e
  split at e
  · rename_i xs k
    split at e
    · rename_i c
      cases e
      simp only [Bool.and_eq_true, decide_eq_true_eq] at c
      obtain ⟨c1, c2⟩ := c
      subst c1
      obtain ⟨a, vs, rfl, h1, _, h3⟩ := seqT_rep w rx (xs := xs) rfl
      have l1 := Reps.length h3
      exact ⟨a, vs, rfl, ry, h1, fun e => c2 (List.eq_nil_of_length_eq_zero (by rw [← l1, e]; rfl)), fun p hp => frozen_tup w (show Reps K F m [] [] from rfl) q p hp⟩
    · cases e
  · cases e
theorem r_mulS : Ref2 K L rTimes mulS := by
  intro F m st H x y v u z Q w rx ry e q
  unfold mulS at e
  split at e
  · rename_i s k
    split at e
    · rename_i c
      cases e
      simp only [Bool.and_eq_true, decide_eq_true_eq] at c
      exact ⟨s, k, rx, ry, c.1.1.1, c.1.1.2, c.1.2, c.2, q F m H _ .refl w rfl⟩
    · cases e
  · cases e
theorem r_mul : Ref2 K L (rMulX K) mulD := r_mulI.or (r_mulL.or (r_mulT.or (r_mulT1.or (r_mulT0.or r_mulS))))
theorem o_mul {X : Cx} : OpR X (binaryOp .Mult) (rMulX X.K) := op_mul.or (op_rep.or (op_repT.or (op_once.or (op_none.or op_times))))
end

/-! ### == != in -/
mutual
def D.eqb : D → D → Bool
  | .non, y => match y with
    | .non => true
    | _ => false
  | .bl a, y => match y with
    | .bl b => a == b
    | .int j => (if a then 1 else 0) == j
    | _ => false
  | .int i, y => match y with
    | .bl b => i == (if b then 1 else 0)
    | .int j => i == j
    | _ => false
  | .str a, y => match y with
    | .str b => a == b
    | _ => false
  | .tup xs, y => match y with
    | .tup ys => D.eqbs xs ys
    | _ => false
  | .lst xs, y => match y with
    | .lst ys => D.eqbs xs ys
    | _ => false
  | .ref _, _ => false
  | .emp, _ => false
  | .scr _, _ => false
def D.eqbs : List D → List D → Bool
  | [], ys => ys.isEmpty
  | x :: xs, ys => match ys with
    | [] => false
    | y :: ys => D.eqb x y && D.eqbs xs ys
end
mutual
/-- how deep a tree of plain data is; none where a thing of the store or a dict lies within -/
def D.ht : D → Option Nat
  | .non => some 0
  | .bl _ => some 0
  | .int _ => some 0
  | .str _ => some 0
  | .tup xs => (D.hts xs).map (· + 1)
  | .lst xs => (D.hts xs).map (· + 1)
  | .ref _ => none
  | .emp => none
  | .scr _ => none
def D.hts : List D → Option Nat
  | [] => some 0
  | x :: xs => (D.ht x).bind fun n => (D.hts xs).map fun k => max n k
end
mutual
def D.pd : D → PyData
  | .non => .none
  | .bl b => .bool b
  | .int i => .int i
  | .str s => .str s
  | .tup xs => .tuple (D.pds xs)
  | .lst xs => .list (D.pds xs)
  | .ref _ => .none
  | .emp => .dict []
  | .scr _ => .none
def D.pds : List D → List PyData
  | [] => []
  | x :: xs => D.pd x :: D.pds xs
end
mutual
theorem D.ht_ok : ∀ (d : D) (n : Nat), D.ht d = some n → (D.pd d).plain = true ∧ (D.pd d).depth = n
  | .non, n, h => by cases h; exact ⟨rfl, rfl⟩
  | .bl _, n, h => by cases h; exact ⟨rfl, rfl⟩
  | .int _, n, h => by cases h; exact ⟨rfl, rfl⟩
  | .str _, n, h => by cases h; exact ⟨rfl, rfl⟩
  | .tup xs, n, h => by
    simp only [D.ht] at h
    cases e : D.hts xs with
    | none => rw [e] at h; cases h
    | some k =>
      rw [e] at h
      cases h
      obtain ⟨a, b⟩ := D.hts_ok xs k e
      exact ⟨by simpa only [D.pd, PyData.plain] using a, by simp only [D.pd, PyData.depth, b]⟩
  | .lst xs, n, h => by
    simp only [D.ht] at h
    cases e : D.hts xs with
    | none => rw [e] at h; cases h
    | some k =>
      rw [e] at h
      cases h
      obtain ⟨a, b⟩ := D.hts_ok xs k e
      exact ⟨by simpa only [D.pd, PyData.plain] using a, by simp only [D.pd, PyData.depth, b]⟩
  | .ref _, n, h => by cases h
  | .emp, n, h => by cases h
  | .scr _, n, h => by cases h
theorem D.hts_ok : ∀ (ds : List D) (n : Nat), D.hts ds = some n → PyData.plainAll (D.pds ds) = true ∧ PyData.depthAll (D.pds ds) = n
  | [], n, h => by cases h; exact ⟨rfl, rfl⟩
  | x :: xs, n, h => by
    simp only [D.hts] at h
    cases e : D.ht x with
    | none => rw [e] at h; cases h
    | some k =>
      rw [e] at h
      simp only [Option.bind] at h
      cases e2 : D.hts xs with
      | none => rw [e2] at h; cases h
      | some j =>
        rw [e2] at h
        cases h
        obtain ⟨a, b⟩ := D.ht_ok x k e
        obtain ⟨c, d⟩ := D.hts_ok xs j e2
        exact ⟨by simp only [D.pds, PyData.plainAll, a, c, Bool.and_self], by simp only [D.pds, PyData.depthAll, b, d]⟩
end
mutual
theorem D.eqv_ok : ∀ (x y : D) (n k : Nat), D.ht x = some n → D.ht y = some k → PyData.eqv (D.pd x) (D.pd y) = D.eqb x y
  | .non, y, n, k, h, g => by cases y <;> first | rfl | cases g
  | .bl _, y, n, k, h, g => by cases y <;> first | rfl | cases g
  | .int _, y, n, k, h, g => by cases y <;> first | rfl | cases g
  | .str _, y, n, k, h, g => by cases y <;> first | rfl | cases g
  | .tup xs, y, n, k, h, g => by
    cases y with
    | tup ys =>
      simp only [D.ht] at h g
      cases e : D.hts xs with
      | none => rw [e] at h; cases h
      | some a =>
        cases e2 : D.hts ys with
        | none => rw [e2] at g; cases g
        | some b =>
          simp only [D.pd, PyData.eqv, D.eqb]
          exact D.eqvs_ok xs ys a b e e2
    | _ => first | rfl | cases g
  | .lst xs, y, n, k, h, g => by
    cases y with
    | lst ys =>
      simp only [D.ht] at h g
      cases e : D.hts xs with
      | none => rw [e] at h; cases h
      | some a =>
        cases e2 : D.hts ys with
        | none => rw [e2] at g; cases g
        | some b =>
          simp only [D.pd, PyData.eqv, D.eqb]
          exact D.eqvs_ok xs ys a b e e2
    | _ => first | rfl | cases g
  | .ref _, y, n, k, h, g => by cases h
  | .emp, y, n, k, h, g => by cases h
  | .scr _, y, n, k, h, g => by cases h
theorem D.eqvs_ok : ∀ (xs ys : List D) (n k : Nat), D.hts xs = some n → D.hts ys = some k → PyData.eqvAll (D.pds xs) (D.pds ys) = D.eqbs xs ys
  | [], ys, n, k, h, g => by cases ys <;> rfl
  | x :: xs, [], n, k, h, g => rfl
  | x :: xs, y :: ys, n, k, h, g => by
    simp only [D.hts] at h g
    cases e : D.ht x with
    | none => rw [e] at h; cases h
    | some a =>
      rw [e] at h
      cases e1 : D.hts xs with
      | none => rw [e1] at h; cases h
      | some a1 =>
        cases e2 : D.ht y with
        | none => rw [e2] at g; cases g
        | some b =>
          rw [e2] at g
          cases e3 : D.hts ys with
          | none => rw [e3] at g; cases g
          | some b1 =>
            simp only [D.pds, PyData.eqvAll, D.eqbs, D.eqv_ok x y a b e e2, D.eqvs_ok xs ys a1 b1 e1 e3]
end
/-- a list of the store is looked into -/
def D.see (st : Sto) (d : D) : D :=
  match seqL st d with
  | some xs => .lst xs
  | none => d
section
variable {K : PySem.W.Frag} {L : Str → Addr} {F : Hp} {m : List Addr} {st : Sto} {H : Hp}
mutual
theorem dp_of (w : Wd K L F m st H) : ∀ (d : D) (v : V) (n : Nat), Rep K F m d v → D.ht d = some n → Dp K H v (D.pd d)
  | .non, v, n, r, h => by cases (show v = .non from r); exact .non
  | .bl _, v, n, r, h => by cases (show v = .bl _ from r); exact .bl _
  | .int _, v, n, r, h => by cases (show v = .int _ from r); exact .int _
  | .str _, v, n, r, h => by cases (show v = .str _ from r); exact .str _
  | .tup xs, v, n, r, h => by
    obtain ⟨a, vs, rfl, h1, h2, h3⟩ := seqT_rep w r (xs := xs) rfl
    simp only [D.ht] at h
    cases e : D.hts xs with
    | none => rw [e] at h; cases h
    | some k => exact .tup h1 (dps_of w xs vs k h3 e)
  | .lst xs, v, n, r, h => by
    obtain ⟨a, vs, rfl, h1, h3⟩ := seqL_rep w r (xs := xs) rfl
    simp only [D.ht] at h
    cases e : D.hts xs with
    | none => rw [e] at h; cases h
    | some k => exact .lst h1 (dps_of w xs vs k h3 e)
  | .ref _, v, n, r, h => by cases h
  | .emp, v, n, r, h => by cases h
  | .scr _, v, n, r, h => by cases h
theorem dps_of (w : Wd K L F m st H) : ∀ (ds : List D) (vs : List V) (n : Nat), Reps K F m ds vs → D.hts ds = some n → DpAll K H vs (D.pds ds)
  | [], vs, n, r, h => by
    simp only [Reps] at r
    subst r
    exact .nil
  | x :: xs, vs, n, r, h => by
    simp only [Reps] at r
    obtain ⟨v, t, rfl, r1, r2⟩ := r
    simp only [D.hts] at h
    cases e : D.ht x with
    | none => rw [e] at h; cases h
    | some k =>
      rw [e] at h
      cases e2 : D.hts xs with
      | none => rw [e2] at h; cases h
      | some j => exact .cons (dp_of w x v k r1 e) (dps_of w xs t j r2 e2)
end
theorem dp_see {d : D} {v : V} {n : Nat} (w : Wd K L F m st H) (r : Rep K F m d v) (h : D.ht (D.see st d) = some n) : Dp K H v (D.pd (D.see st d)) := by
  unfold D.see at h ⊢
  cases e : seqL st d with
  | none => rw [e] at h; exact dp_of w d v n r h
  | some xs =>
    rw [e] at h
    obtain ⟨a, vs, rfl, h1, h3⟩ := seqL_rep w r e
    simp only [D.ht] at h
    cases e1 : D.hts xs with
    | none => rw [e1] at h; cases h
    | some k => exact .lst h1 (dps_of w xs vs k h3 e1)
end
/-- the answer of ==, where both are plain data that is not too deep -/
def eqB (st : Sto) (x y : D) : Option Bool :=
  match D.ht (D.see st x), D.ht (D.see st y) with
  | some n, some _ => if n ≤ 60 then some (D.eqb (D.see st x) (D.see st y)) else none
  | _, _ => none
def eqD : Sto → D → D → Option D := fun st x y => (eqB st x y).map .bl
def neD : Sto → D → D → Option D := fun st x y => (eqB st x y).map fun b => .bl (!b)
def rEqP (K : PySem.W.Frag) : R2 := fun x y H Q => ∃ d e, Dp K H x d ∧ Dp K H y e ∧ d.plain = true ∧ e.plain = true ∧ d.depth ≤ 60 ∧ Q (.bl (PyData.eqv d e)) H
def rNeP (K : PySem.W.Frag) : R2 := fun x y H Q => ∃ d e, Dp K H x d ∧ Dp K H y e ∧ d.plain = true ∧ e.plain = true ∧ d.depth ≤ 60 ∧ Q (.bl (!PyData.eqv d e)) H
theorem o_eq {X : Cx} (hu : X.A.units + 64 < cLine) : OpR X (compareOp .Eq) (rEqP X.K) := by
  intro pins s σ H x y v u Q I rx ry h
  obtain ⟨d, e, hd, he, pd, pe, hn, q⟩ := h
  obtain ⟨as, r1⟩ := Dp.reads I d x v hd rx
  obtain ⟨bs, r2⟩ := Dp.reads I e y u he ry
  exact SeqAt.eq_plain r1 r2 pd pe (by have := Nat.min_le_left d.depth e.depth; omega) ⟨.bl _, H, I, rfl, q⟩
theorem o_ne {X : Cx} (hu : X.A.units + 64 < cLine) : OpR X (compareOp .NotEq) (rNeP X.K) := by
  intro pins s σ H x y v u Q I rx ry h
  obtain ⟨d, e, hd, he, pd, pe, hn, q⟩ := h
  obtain ⟨as, r1⟩ := Dp.reads I d x v hd rx
  obtain ⟨bs, r2⟩ := Dp.reads I e y u he ry
  exact SeqAt.ne_plain r1 r2 pd pe (by have := Nat.min_le_left d.depth e.depth; omega) ⟨.bl _, H, I, rfl, q⟩
theorem eqB_ok {K : PySem.W.Frag} {L : Str → Addr} {F : Hp} {m : List Addr} {st : Sto} {H : Hp} {x y : D} {v u : V} {b : Bool} (w : Wd K L F m st H) (rx : Rep K F m x v) (ry : Rep K F m y u) (e : eqB st x y = some b) :
    ∃ d f, Dp K H v d ∧ Dp K H u f ∧ d.plain = true ∧ f.plain = true ∧ d.depth ≤ 60 ∧ PyData.eqv d f = b := by
  unfold eqB at e
  split at e
  · rename_i n k e1 e2
    split at e
    · rename_i hn
      cases e
      obtain ⟨a1, a2⟩ := D.ht_ok _ _ e1
      obtain ⟨b1, b2⟩ := D.ht_ok _ _ e2
      exact ⟨_, _, dp_see w rx e1, dp_see w ry e2, a1, b1, by rw [a2]; exact hn, D.eqv_ok _ _ _ _ e1 e2⟩
    · cases e
  · cases e
section
variable {K : PySem.W.Frag} {L : Str → Addr}
theorem r_eq : Ref2 K L (rEqP K) eqD := by
  intro F m st H x y v u z Q w rx ry e q
  unfold eqD at e
  cases e1 : eqB st x y with
  | none => rw [e1] at e; cases e
  | some b =>
    rw [e1] at e
    cases e
    obtain ⟨d, f, h1, h2, h3, h4, h5, h6⟩ := eqB_ok w rx ry e1
    exact ⟨d, f, h1, h2, h3, h4, h5, by rw [h6]; exact q F m H _ .refl w rfl⟩
theorem r_ne : Ref2 K L (rNeP K) neD := by
  intro F m st H x y v u z Q w rx ry e q
  unfold neD at e
  cases e1 : eqB st x y with
  | none => rw [e1] at e; cases e
  | some b =>
    rw [e1] at e
    cases e
    obtain ⟨d, f, h1, h2, h3, h4, h5, h6⟩ := eqB_ok w rx ry e1
    exact ⟨d, f, h1, h2, h3, h4, h5, by rw [h6]; exact q F m H _ .refl w rfl⟩
end
end DL
set_option Elab.async false
set_option linter.all false
set_option maxRecDepth 100000
set_option autoImplicit false
set_option maxHeartbeats 2000000
namespace DL
open PySem PySem.Spec L2 PyProof.Rows
/-! ### in, not in -/
def inB (st : Sto) (x y : D) : Option Bool :=
  match D.ht (D.see st x), seqA st y with
  | some n, some ys => if n ≤ 60 then (D.hts ys).map fun _ => ys.any fun z => D.eqb z (D.see st x) else none
  | _, _ => none
def inD : Sto → D → D → Option D := fun st x y => (inB st x y).map .bl
def notInD : Sto → D → D → Option D := fun st x y => (inB st x y).map fun b => .bl (!b)
def rInP (K : PySem.W.Frag) (neg : Bool) : R2 := fun x y H Q => ∃ p d vs ds, y = .ref p ∧ (SqL K H p vs ∨ SqT K H p vs) ∧ Dp K H x d ∧ DpAll K H vs ds ∧ d.plain = true ∧ PyData.plainAll ds = true ∧ d.depth ≤ 60 ∧ Q (.bl (if neg then !(ds.any fun z => PyData.eqv z d) else ds.any fun z => PyData.eqv z d)) H
theorem o_inX {X : Cx} (hu : X.A.units + 65 < cLine) : OpR X (compareOp .In) (rInP X.K false) := by
  intro pins s σ H x y v u Q I rx ry h
  obtain ⟨p, d, vs, ds, rfl, hs, hd, ha, pd, pa, hn, q⟩ := h
  obtain ⟨as, r1⟩ := Dp.reads I d x v hd rx
  rcases hs with hs | hs
  · obtain ⟨bs, r2⟩ := Dp.reads I (.list ds) (.ref p) u (.lst hs ha) ry
    exact SeqAt.in_list_data r2 r1 pa pd (by have := Nat.min_le_right (PyData.depthAll ds) d.depth; omega) ⟨.bl _, H, I, rfl, q⟩
  · obtain ⟨bs, r2⟩ := Dp.reads I (.tuple ds) (.ref p) u (.tup hs ha) ry
    exact SeqAt.in_tuple_data r2 r1 pa pd (by have := Nat.min_le_right (PyData.depthAll ds) d.depth; omega) ⟨.bl _, H, I, rfl, q⟩
theorem o_notInX {X : Cx} (hu : X.A.units + 65 < cLine) : OpR X (compareOp .NotIn) (rInP X.K true) := by
  intro pins s σ H x y v u Q I rx ry h
  obtain ⟨p, d, vs, ds, rfl, hs, hd, ha, pd, pa, hn, q⟩ := h
  obtain ⟨as, r1⟩ := Dp.reads I d x v hd rx
  rcases hs with hs | hs
  · obtain ⟨bs, r2⟩ := Dp.reads I (.list ds) (.ref p) u (.lst hs ha) ry
    exact SeqAt.notIn_list_data r2 r1 pa pd (by have := Nat.min_le_right (PyData.depthAll ds) d.depth; omega) ⟨.bl _, H, I, rfl, q⟩
  · obtain ⟨bs, r2⟩ := Dp.reads I (.tuple ds) (.ref p) u (.tup hs ha) ry
    exact SeqAt.notIn_tuple_data r2 r1 pa pd (by have := Nat.min_le_right (PyData.depthAll ds) d.depth; omega) ⟨.bl _, H, I, rfl, q⟩
theorem any_eqv {z : D} {n : Nat} (h : D.ht z = some n) : ∀ (ys : List D) (k : Nat), D.hts ys = some k → (D.pds ys).any (fun y => PyData.eqv y (D.pd z)) = ys.any fun y => D.eqb y z
  | [], _, _ => rfl
  | y :: ys, k, g => by
    simp only [D.hts] at g
    cases e : D.ht y with
    | none => rw [e] at g; cases g
    | some a =>
      rw [e] at g
      cases e1 : D.hts ys with
      | none => rw [e1] at g; cases g
      | some b => simp only [D.pds, List.any_cons, D.eqv_ok y z a n e h, any_eqv h ys b e1]
section
variable {K : PySem.W.Frag} {L : Str → Addr}
theorem inB_ok {F : Hp} {m : List Addr} {st : Sto} {H : Hp} {x y : D} {v u : V} {b : Bool} (w : Wd K L F m st H) (rx : Rep K F m x v) (ry : Rep K F m y u) (e : inB st x y = some b) :
    ∃ p d vs ds, u = .ref p ∧ (SqL K H p vs ∨ SqT K H p vs) ∧ Dp K H v d ∧ DpAll K H vs ds ∧ d.plain = true ∧ PyData.plainAll ds = true ∧ d.depth ≤ 60 ∧ (ds.any fun z => PyData.eqv z d) = b := by
  unfold inB at e
  split at e
  · rename_i n ys e1 e2
    split at e
    · rename_i hn
      cases e3 : D.hts ys with
      | none => rw [e3] at e; cases e
      | some k =>
        rw [e3] at e
        cases e
        obtain ⟨a1, a2⟩ := D.ht_ok _ _ e1
        obtain ⟨b1, b2⟩ := D.hts_ok _ _ e3
        obtain ⟨p, vs, rfl, h1, h2⟩ := seqA_rep w ry e2
        exact ⟨p, _, vs, _, rfl, h1, dp_see w rx e1, dps_of w ys vs k h2 e3, a1, b1, by rw [a2]; exact hn, any_eqv e1 ys k e3⟩
    · cases e
  · cases e
theorem r_in : Ref2 K L (rInP K false) inD := by
  intro F m st H x y v u z Q w rx ry e q
  unfold inD at e
  cases e1 : inB st x y with
  | none => rw [e1] at e; cases e
  | some b =>
    rw [e1] at e
    cases e
    obtain ⟨p, d, vs, ds, h1, h2, h3, h4, h5, h6, h7, h8⟩ := inB_ok w rx ry e1
    exact ⟨p, d, vs, ds, h1, h2, h3, h4, h5, h6, h7, by rw [if_neg Bool.false_ne_true, h8]; exact q F m H _ .refl w rfl⟩
theorem r_notIn : Ref2 K L (rInP K true) notInD := by
  intro F m st H x y v u z Q w rx ry e q
  unfold notInD at e
  cases e1 : inB st x y with
  | none => rw [e1] at e; cases e
  | some b =>
    rw [e1] at e
    cases e
    obtain ⟨p, d, vs, ds, h1, h2, h3, h4, h5, h6, h7, h8⟩ := inB_ok w rx ry e1
    exact ⟨p, d, vs, ds, h1, h2, h3, h4, h5, h6, h7, by rw [if_pos rfl, h8]; exact q F m H _ .refl w rfl⟩
end

/-! ### is None -/
def nonB : D → Bool
  | .non => true
  | _ => false
def isN : Sto → D → D → Option D := fun _ x y => match y with
  | .non => some (.bl (nonB x))
  | _ => none
def notN : Sto → D → D → Option D := fun _ x y => match y with
  | .non => some (.bl (!nonB x))
  | _ => none
section
variable {K : PySem.W.Frag} {L : Str → Addr}
theorem non_rep {F : Hp} {m : List Addr} {x : D} {v : V} (r : Rep K F m x v) : decide (v = .non) = nonB x := by
  cases x with
  | non => cases (show v = .non from r); rfl
  | bl _ => cases (show v = .bl _ from r); rfl
  | int _ => cases (show v = .int _ from r); rfl
  | str _ => cases (show v = .str _ from r); rfl
  | tup _ => obtain ⟨a, vs, rfl, _⟩ := r; rfl
  | lst _ => obtain ⟨a, vs, rfl, _⟩ := r; rfl
  | ref _ => obtain ⟨a, rfl, _⟩ := r; rfl
  | emp => obtain ⟨a, rfl, _⟩ := r; rfl
  | scr _ => obtain ⟨a, rfl, _⟩ := r; rfl
theorem r_isN : Ref2 K L (fun x y H Q => y = .non ∧ Q (.bl (decide (x = .non))) H) isN := by
  intro F m st H x y v u z Q w rx ry e q
  unfold isN at e
  split at e
  · cases e
    exact ⟨ry, by rw [non_rep rx]; exact q F m H _ .refl w rfl⟩
  · cases e
theorem r_notN : Ref2 K L (fun x y H Q => y = .non ∧ Q (.bl (!decide (x = .non))) H) notN := by
  intro F m st H x y v u z Q w rx ry e q
  unfold notN at e
  split at e
  · cases e
    exact ⟨ry, by rw [non_rep rx]; exact q F m H _ .refl w rfl⟩
  · cases e
end

/-! ### places and slices -/
def ixD : Sto → D → D → Option D := fun st x y =>
  match x, y with
  | .str z, .int i => if big z.length = true then (atI z.cps.toList i).map fun c => .str ⟨#[c]⟩ else none
  | x, .int i => (seqA st x).bind fun xs => atI xs i
  | _, _ => none
section
variable {K : PySem.W.Frag} {L : Str → Addr}
theorem Reps.at {F : Hp} {m : List Addr} {xs : List D} {vs : List V} {i : Int} {d : D} (h : Reps K F m xs vs) (e : atI xs i = some d) : ∃ v, atI vs i = some v ∧ Rep K F m d v := by
  unfold atI at e ⊢
  rw [Reps.length h]
  cases q : ixN xs.length i with
  | none => rw [q] at e; cases e
  | some j =>
    rw [q] at e
    obtain ⟨v, h1, h2⟩ := Reps.get h e
    exact ⟨v, h1, h2⟩
theorem ix_fin {F : Hp} {m : List Addr} {st : Sto} {H : Hp} {x : D} {v : V} {i : Int} {z : D} {Q : VK} (w : Wd K L F m st H) (rx : Rep K F m x v) (e : (seqA st x).bind (fun xs => atI xs i) = some z) (q : okG K L F m H (relE K) Q z st) : rIx K v (.int i) H Q := by
  cases e1 : seqA st x with
  | none => rw [e1] at e; cases e
  | some xs =>
    rw [e1] at e
    obtain ⟨a, vs, rfl, h1, h2⟩ := seqA_rep w rx e1
    obtain ⟨t, h3, h4⟩ := Reps.at h2 e
    rcases h1 with h1 | h1
    · exact .inl ⟨a, vs, i, t, rfl, rfl, h1, h3, q F m H _ .refl w h4⟩
    · exact .inr (.inl ⟨a, vs, i, t, rfl, rfl, h1, h3, q F m H _ .refl w h4⟩)
theorem r_ix : Ref2 K L (rIx K) ixD := by
  intro F m st H x y v u z Q w rx ry e q
  unfold ixD at e
  split at e
  · rename_i s i
    split at e
    · rename_i c
      cases (show v = .str s from rx)
      cases (show u = .int i from ry)
      cases e1 : atI s.cps.toList i with
      | none => rw [e1] at e; cases e
      | some k =>
        rw [e1] at e
        cases e
        exact .inr (.inr ⟨s, i, k, rfl, rfl, big_line c, e1, q F m H _ .refl w rfl⟩)
    · cases e
  · rename_i i _
    cases (show u = .int i from ry)
    exact ix_fin w rx e q
  · cases e
end
def cutL {α : Type} (xs : List α) (lo hi : Option Int) : List α := (xs.drop (HT.sIx xs.length 0 lo)).take (HT.sIx xs.length xs.length hi - HT.sIx xs.length 0 lo)
def cutD (st : Sto) (d : D) (lo hi : Option Int) : Option D :=
  match d with
  | .str z => if big z.length = true then some (.str (cutS z lo hi)) else none
  | .tup xs => some (.tup (cutL xs lo hi))
  | d => (seqL st d).map fun xs => .lst (cutL xs lo hi)
def noB : DX (Option Int) := fun _ st => .val none st
def intB (f : DX D) : DX (Option Int) := fun r st => (f r st).bind fun d st1 =>
  match d with
  | .int i => .val (some i) st1
  | _ => .bad
def sliceE (fo : DX D) (fl fh : DX (Option Int)) : DX D := fun r st => (fo r st).bind fun x st1 => (fl r st1).bind fun l st2 => (fh r st2).bind fun h st3 => ofOpt (cutD st3 x l h) st3
def rSlX (K : PySem.W.Frag) : V → Option Int → Option Int → Hp → VK → Prop := fun x lo hi H Q => rSlA K x lo hi H Q ∨ rSlL K x lo hi H Q ∨ rSlS x lo hi H Q
abbrev relO : Hp → List Addr → Option Int → Option Int → Prop := fun _ _ a b => a = b
section
variable {X : Cx} {L : Str → Addr} {W : WX} {P : Option XP} {fo f : DX D} {fl fh : DX (Option Int)} {e : Expr} {lo hi : Option Expr} {pos p2 : Pos}
theorem sl_any : SlR X (rSlX X.K) := sl_tupA.or (sl_list.or sl_str)
theorem POw {e : Option Expr} {t t' : TO} (h : PO X e t) (w : ∀ s H Q, t' s H Q → t s H Q) : PO X e t' := ⟨fun pins s σ H Q I q => h.run pins s σ H Q I (w _ _ _ q)⟩
theorem d_noB : PO X none (cG X.K L W P relO noB) := POw po_none fun s H Q ⟨F, m, st, r, w, hr, q⟩ => q F m H none .refl w rfl
theorem d_intB (h : PE X e (cE X.K L W P f)) : PO X (some e) (cG X.K L W P relO (intB f)) := by
  refine POw (po_some h) fun s H Q ⟨F, m, st, r, w, hr, q⟩ => ?_
  refine stepG w hr q fun x st1 F1 m1 H1 v _ w1 r1 rx q1 => ?_
  cases x with
  | int i => exact ⟨i, rx, q1 F1 m1 H1 _ .refl w1 rfl⟩
  | _ => exact q1.elim
theorem Reps.dropT {K : PySem.W.Frag} {F : Hp} {m : List Addr} : ∀ {xs : List D} {vs : List V} (n : Nat), Reps K F m xs vs → Reps K F m (xs.drop n) (vs.drop n)
  | _, _, 0, h => by simpa using h
  | [], vs, n + 1, h => by
    simp only [Reps] at h
    subst h; rfl
  | x :: xs, vs, n + 1, h => by
    simp only [Reps] at h
    obtain ⟨v, t, rfl, _, q⟩ := h
    exact Reps.dropT n q
theorem Reps.takeT {K : PySem.W.Frag} {F : Hp} {m : List Addr} : ∀ {xs : List D} {vs : List V} (n : Nat), Reps K F m xs vs → Reps K F m (xs.take n) (vs.take n)
  | _, _, 0, h => by simp [Reps]
  | [], vs, n + 1, h => by
    simp only [Reps] at h
    subst h; rfl
  | x :: xs, vs, n + 1, h => by
    simp only [Reps] at h
    obtain ⟨v, t, rfl, p, q⟩ := h
    exact ⟨v, t.take n, rfl, p, Reps.takeT n q⟩
theorem Reps.cutT {K : PySem.W.Frag} {F : Hp} {m : List Addr} {xs : List D} {vs : List V} (lo hi : Option Int) (h : Reps K F m xs vs) : Reps K F m (cutL xs lo hi) (cutV vs lo hi) := by
  unfold cutL cutV
  rw [Reps.length h]
  exact Reps.takeT _ (Reps.dropT _ h)
theorem cut_ok {K : PySem.W.Frag} {F : Hp} {m : List Addr} {st : Sto} {H : Hp} {x z : D} {v : V} {l h : Option Int} {Q : VK} (w : Wd K L F m st H) (rx : Rep K F m x v) (e : cutD st x l h = some z) (q : okG K L F m H (relE K) Q z st) : rSlX K v l h H Q := by
  unfold cutD at e
  split at e
  · rename_i s
    split at e
    · rename_i c
      cases e
      exact .inr (.inr ⟨s, rx, big_line c, q F m H _ .refl w rfl⟩)
    · cases e
  · rename_i xs
    cases e
    obtain ⟨a, vs, rfl, h1, _, h2⟩ := seqT_rep w rx (xs := xs) rfl
    have lv := Reps.length h2
    refine .inl ⟨a, vs, rfl, h1, fun ⟨e1, e2⟩ => ?_, fun _ p hp => ?_⟩
    · have : cutL xs l h = xs := by
        unfold cutL
        rw [← lv, e1, e2]
        simp [lv]
      rw [this] at q
      exact q F m H _ .refl w rx
    · exact frozen_tup w (Reps.cutT l h h2) q p hp
  · cases e1 : seqL st x with
    | none => rw [e1] at e; cases e
    | some xs =>
      rw [e1] at e
      cases e
      obtain ⟨a, vs, rfl, h1, h2⟩ := seqL_rep w rx e1
      exact .inr (.inl ⟨a, vs, rfl, h1, fun p hp => frozen_lst w (Reps.cutT l h h2) q p hp⟩)
theorem d_slice (he : PE X e (cE X.K L W P fo)) (hl : PO X lo (cG X.K L W P relO fl)) (hh : PO X hi (cG X.K L W P relO fh)) : PE X (.Subscript e (.Slice lo hi none p2) pos) (cE X.K L W P (sliceE fo fl fh)) := by
  refine PEw (pe_slice sl_any he hl hh) fun s H Q ⟨F, m, st, r, w, hr, q⟩ => ?_
  refine stepG w hr q fun x st1 F1 m1 H1 v _ w1 r1 rx q1 => ?_
  refine stepG w1 r1 q1 fun l st2 F2 m2 H2 l' e2 w2 r2 rl q2 => ?_
  refine stepG w2 r2 q2 fun h st3 F3 m3 H3 h' e3 w3 r3 rh q3 => ?_
  obtain ⟨z, ez, q3⟩ := ofOpt_sat q3
  cases (show l = l' from rl)
  cases (show h = h' from rh)
  exact cut_ok w3 ((rx.ext e2).ext e3) ez q3
end

/-! ### built-in functions of values -/
def lenD : Sto → List D → Option D := fun st xs =>
  match xs with
  | [.str z] => if big z.length = true then some (.int z.length) else none
  | [x] => (seqA st x).map fun ys => .int ys.length
  | _ => none
def absD : Sto → List D → Option D := fun _ xs =>
  match xs with
  | [.int i] => some (.int (if i < 0 then -i else i))
  | _ => none
def max2D : Sto → List D → Option D := fun _ xs =>
  match xs with
  | [.int i, .int j] => some (.int (if j > i then j else i))
  | _ => none
def min2D : Sto → List D → Option D := fun _ xs =>
  match xs with
  | [.int i, .int j] => some (.int (if j < i then j else i))
  | _ => none
def intsOf : List D → Option (List Int)
  | [] => some []
  | .int i :: r => (intsOf r).map (i :: ·)
  | _ :: _ => none
def blsOf : List D → Option (List Bool)
  | [] => some []
  | .bl i :: r => (blsOf r).map (i :: ·)
  | _ :: _ => none
def maxI : List Int → Option Int
  | [] => none
  | i :: r => some (r.foldl (fun a b => if b > a then b else a) i)
def minI : List Int → Option Int
  | [] => none
  | i :: r => some (r.foldl (fun a b => if b < a then b else a) i)
def one1 (g : Sto → D → Option D) : Sto → List D → Option D := fun st xs =>
  match xs with
  | [x] => g st x
  | _ => none
def maxD : Sto → List D → Option D := one1 fun st x => (seqL st x).bind fun ys => (intsOf ys).bind fun ns => (maxI ns).map .int
def minD : Sto → List D → Option D := one1 fun st x => (seqL st x).bind fun ys => (intsOf ys).bind fun ns => (minI ns).map .int
def sumD : Sto → List D → Option D := one1 fun st x => (seqL st x).bind fun ys => (intsOf ys).map fun ns => .int ns.sum
def allD : Sto → List D → Option D := one1 fun st x => (seqL st x).bind fun ys => (blsOf ys).map fun ns => .bl (ns.all id)
def anyD : Sto → List D → Option D := one1 fun st x => (seqL st x).bind fun ys => (blsOf ys).map fun ns => .bl (ns.any id)
def intD : Sto → List D → Option D := one1 fun _ x =>
  match x with
  | .int i => some (.int i)
  | .bl b => some (.int (if b then 1 else 0))
  | _ => none
def boolD : Sto → List D → Option D := one1 fun _ x =>
  match x with
  | .int i => some (.bl (i != 0))
  | .bl b => some (.bl b)
  | _ => none
def strD : Sto → List D → Option D := one1 fun _ x =>
  match x with
  | .int i => if decide (i.natAbs.log2 < 1920) = true then some (.str (toString i)) else none
  | _ => none
def intSD : Sto → List D → Option D := one1 fun _ x =>
  match x with
  | .str a => if decide (a.length ≤ 640) = true then (PySem.intText? a).map .int else none
  | _ => none
def tupleD : Sto → List D → Option D := one1 fun st x => (seqA st x).map .tup
def listD : Sto → List D → Option D := one1 fun st x => (seqA st x).map .lst
section
variable {K : PySem.W.Frag} {L : Str → Addr} {F : Hp} {m : List Addr} {st : Sto} {H : Hp}
theorem Reps.one {x : D} {vs : List V} (h : Reps K F m [x] vs) : ∃ v, vs = [v] ∧ Rep K F m x v := by
  simp only [Reps] at h
  obtain ⟨v, _, rfl, r, rfl⟩ := h
  exact ⟨v, rfl, r⟩
theorem Reps.two {x y : D} {vs : List V} (h : Reps K F m [x, y] vs) : ∃ v u, vs = [v, u] ∧ Rep K F m x v ∧ Rep K F m y u := by
  simp only [Reps] at h
  obtain ⟨v, _, rfl, r, u, _, rfl, r2, rfl⟩ := h
  exact ⟨v, u, rfl, r, r2⟩
theorem RefC.one {r : List V → Hp → VK → Prop} {g : Sto → D → Option D} (h : ∀ F m st H x v y Q, Wd K L F m st H → Rep K F m x v → g st x = some y → okG K L F m H (relE K) Q y st → r [v] H Q) : RefC K L r (one1 g) := by
  intro F m st H xs vs z Q w rx e q
  unfold one1 at e
  split at e
  · obtain ⟨v, rfl, rv⟩ := Reps.one rx
    exact h F m st H _ v z Q w rv e q
  · cases e
theorem ints_rep : ∀ {xs : List D} {vs : List V} {ns : List Int}, Reps K F m xs vs → intsOf xs = some ns → vs = ns.map V.int
  | [], vs, ns, h, e => by
    cases e
    exact h
  | x :: xs, vs, ns, h, e => by
    unfold intsOf at e
    split at e
    · rename_i hq
      cases hq
    · rename_i i r heq
      cases heq
      cases e1 : intsOf xs with
      | none => rw [e1] at e; cases e
      | some ms =>
        rw [e1] at e
        cases e
        simp only [Reps] at h
        obtain ⟨v, t, rfl, r1, r2⟩ := h
        cases (show v = .int i from r1)
        rw [ints_rep r2 e1]
        rfl
    · cases e
theorem bls_rep : ∀ {xs : List D} {vs : List V} {ns : List Bool}, Reps K F m xs vs → blsOf xs = some ns → vs = ns.map V.bl
  | [], vs, ns, h, e => by
    cases e
    exact h
  | x :: xs, vs, ns, h, e => by
    unfold blsOf at e
    split at e
    · rename_i hq
      cases hq
    · rename_i i r heq
      cases heq
      cases e1 : blsOf xs with
      | none => rw [e1] at e; cases e
      | some ms =>
        rw [e1] at e
        cases e
        simp only [Reps] at h
        obtain ⟨v, t, rfl, r1, r2⟩ := h
        cases (show v = .bl i from r1)
        rw [bls_rep r2 e1]
        rfl
    · cases e
theorem r_len : RefC K L (fun xs H Q => ∃ x n, xs = [x] ∧ LenV K x H n ∧ Q (.int n) H) lenD := by
  intro F m st H xs vs z Q w rx e q
  unfold lenD at e
  split at e
  · rename_i s
    split at e
    · rename_i c
      cases e
      obtain ⟨v, rfl, rv⟩ := Reps.one rx
      cases (show v = .str s from rv)
      exact ⟨_, s.length, rfl, ⟨big_line c, rfl⟩, q F m H _ .refl w rfl⟩
    · cases e
  · rename_i x _
    obtain ⟨v, rfl, rv⟩ := Reps.one rx
    cases e1 : seqA st x with
    | none => rw [e1] at e; cases e
    | some ys =>
      rw [e1] at e
      cases e
      obtain ⟨a, us, rfl, h1, h2⟩ := seqA_rep w rv e1
      refine ⟨_, us.length, rfl, ?_, by rw [Reps.length h2]; exact q F m H _ .refl w rfl⟩
      rcases h1 with h1 | h1
      · exact .inl ⟨us, h1, rfl⟩
      · exact .inr ⟨us, h1, rfl⟩
  · cases e
theorem r_abs : RefC K L (fun xs H Q => ∃ i, xs = [.int i] ∧ Q (.int (if i < 0 then -i else i)) H) absD := by
  intro F m st H xs vs z Q w rx e q
  unfold absD at e
  split at e
  · rename_i i
    cases e
    obtain ⟨v, rfl, rv⟩ := Reps.one rx
    cases (show v = .int i from rv)
    exact ⟨i, rfl, q F m H _ .refl w rfl⟩
  · cases e
theorem r_max2 : RefC K L (fun xs H Q => ∃ i j, xs = [.int i, .int j] ∧ Q (.int (if j > i then j else i)) H) max2D := by
  intro F m st H xs vs z Q w rx e q
  unfold max2D at e
  split at e
  · rename_i i j
    cases e
    obtain ⟨v, u, rfl, rv, ru⟩ := Reps.two rx
    cases (show v = .int i from rv)
    cases (show u = .int j from ru)
    exact ⟨i, j, rfl, q F m H _ .refl w rfl⟩
  · cases e
theorem r_min2 : RefC K L (fun xs H Q => ∃ i j, xs = [.int i, .int j] ∧ Q (.int (if j < i then j else i)) H) min2D := by
  intro F m st H xs vs z Q w rx e q
  unfold min2D at e
  split at e
  · rename_i i j
    cases e
    obtain ⟨v, u, rfl, rv, ru⟩ := Reps.two rx
    cases (show v = .int i from rv)
    cases (show u = .int j from ru)
    exact ⟨i, j, rfl, q F m H _ .refl w rfl⟩
  · cases e
theorem foldMax (r : List Int) : ∀ (i m : Int), (m = i ∨ m ∈ r) → i ≤ m → (∀ y ∈ r, y ≤ m) → r.foldl (fun a b => if b > a then b else a) i = m := by
  induction r with
  | nil =>
    intro i m h _ _
    rcases h with h | h
    · exact h.symm
    · cases h
  | cons b r ih =>
    intro i m h hi hr
    simp only [List.foldl_cons]
    have hb := hr b List.mem_cons_self
    refine ih _ m ?_ (by split <;> omega) fun y hy => hr y (List.mem_cons_of_mem _ hy)
    rcases h with h | h
    · subst h
      left
      rw [if_neg (by omega)]
    · rcases List.mem_cons.mp h with h | h
      · subst h
        by_cases c : m > i
        · left; rw [if_pos c]
        · left; rw [if_neg c]; omega
      · exact .inr h
theorem foldMin (r : List Int) : ∀ (i m : Int), (m = i ∨ m ∈ r) → m ≤ i → (∀ y ∈ r, m ≤ y) → r.foldl (fun a b => if b < a then b else a) i = m := by
  induction r with
  | nil =>
    intro i m h _ _
    rcases h with h | h
    · exact h.symm
    · cases h
  | cons b r ih =>
    intro i m h hi hr
    simp only [List.foldl_cons]
    have hb := hr b List.mem_cons_self
    refine ih _ m ?_ (by split <;> omega) fun y hy => hr y (List.mem_cons_of_mem _ hy)
    rcases h with h | h
    · subst h
      left
      rw [if_neg (by omega)]
    · rcases List.mem_cons.mp h with h | h
      · subst h
        by_cases c : m < i
        · left; rw [if_pos c]
        · left; rw [if_neg c]; omega
      · exact .inr h
theorem r_max : RefC K L (rMax K) maxD := RefC.one fun F m st H x v y Q w rv e q => by
  cases e1 : seqL st x with
  | none => rw [e1] at e; cases e
  | some ys =>
    rw [e1] at e
    cases e2 : intsOf ys with
    | none => simp only [Option.bind, e2] at e; cases e
    | some ns =>
      simp only [Option.bind, e2] at e
      cases ns with
      | nil => cases e
      | cons n ns =>
        cases e
        obtain ⟨a, us, rfl, h1, h2⟩ := seqL_rep w rv e1
        rw [ints_rep h2 e2] at h1
        refine ⟨a, _, rfl, h1, by simp, fun k hk hm => ?_⟩
        rw [← foldMax ns n k (List.mem_cons.mp hk) (hm n List.mem_cons_self) fun y hy => hm y (List.mem_cons_of_mem _ hy)]
        exact q F m H _ .refl w rfl
theorem r_minL : RefC K L (rMin K) minD := RefC.one fun F m st H x v y Q w rv e q => by
  cases e1 : seqL st x with
  | none => rw [e1] at e; cases e
  | some ys =>
    rw [e1] at e
    cases e2 : intsOf ys with
    | none => simp only [Option.bind, e2] at e; cases e
    | some ns =>
      simp only [Option.bind, e2] at e
      cases ns with
      | nil => cases e
      | cons n ns =>
        cases e
        obtain ⟨a, us, rfl, h1, h2⟩ := seqL_rep w rv e1
        rw [ints_rep h2 e2] at h1
        refine ⟨a, _, rfl, h1, by simp, fun k hk hm => ?_⟩
        rw [← foldMin ns n k (List.mem_cons.mp hk) (hm n List.mem_cons_self) fun y hy => hm y (List.mem_cons_of_mem _ hy)]
        exact q F m H _ .refl w rfl
theorem r_sum : RefC K L (rSum K) sumD := RefC.one fun F m st H x v y Q w rv e q => by
  cases e1 : seqL st x with
  | none => rw [e1] at e; cases e
  | some ys =>
    rw [e1] at e
    cases e2 : intsOf ys with
    | none => simp only [Option.bind, e2] at e; cases e
    | some ns =>
      simp only [Option.bind, e2] at e
      cases e
      obtain ⟨a, us, rfl, h1, h2⟩ := seqL_rep w rv e1
      rw [ints_rep h2 e2] at h1
      exact ⟨a, ns, rfl, h1, q F m H _ .refl w rfl⟩
theorem r_all : RefC K L (rAll K) allD := RefC.one fun F m st H x v y Q w rv e q => by
  cases e1 : seqL st x with
  | none => rw [e1] at e; cases e
  | some ys =>
    rw [e1] at e
    cases e2 : blsOf ys with
    | none => simp only [Option.bind, e2] at e; cases e
    | some ns =>
      simp only [Option.bind, e2] at e
      cases e
      obtain ⟨a, us, rfl, h1, h2⟩ := seqL_rep w rv e1
      rw [bls_rep h2 e2] at h1
      exact ⟨a, ns, rfl, h1, q F m H _ .refl w rfl⟩
theorem r_any : RefC K L (rAny K) anyD := RefC.one fun F m st H x v y Q w rv e q => by
  cases e1 : seqL st x with
  | none => rw [e1] at e; cases e
  | some ys =>
    rw [e1] at e
    cases e2 : blsOf ys with
    | none => simp only [Option.bind, e2] at e; cases e
    | some ns =>
      simp only [Option.bind, e2] at e
      cases e
      obtain ⟨a, us, rfl, h1, h2⟩ := seqL_rep w rv e1
      rw [bls_rep h2 e2] at h1
      exact ⟨a, ns, rfl, h1, q F m H _ .refl w rfl⟩
theorem r_int : RefC K L (fun xs H Q => (∃ i, xs = [.int i] ∧ Q (.int i) H) ∨ ∃ k, xs = [.bl k] ∧ Q (.int (if k then 1 else 0)) H) intD := RefC.one fun F m st H x v y Q w rv e q => by
  split at e
  · cases e
    exact .inl ⟨_, congrArg (fun z => [z]) (show v = _ from rv), q F m H _ .refl w rfl⟩
  · cases e
    exact .inr ⟨_, congrArg (fun z => [z]) (show v = _ from rv), q F m H _ .refl w rfl⟩
  · cases e
theorem r_bool : RefC K L (fun xs H Q => (∃ i, xs = [.int i] ∧ Q (.bl (i != 0)) H) ∨ ∃ k, xs = [.bl k] ∧ Q (.bl k) H) boolD := RefC.one fun F m st H x v y Q w rv e q => by
  split at e
  · cases e
    exact .inl ⟨_, congrArg (fun z => [z]) (show v = _ from rv), q F m H _ .refl w rfl⟩
  · cases e
    exact .inr ⟨_, congrArg (fun z => [z]) (show v = _ from rv), q F m H _ .refl w rfl⟩
  · cases e
theorem r_str : RefC K L (fun xs H Q => ∃ i, xs = [.int i] ∧ i.natAbs.log2 < 1920 ∧ Q (.str (toString i)) H) strD := RefC.one fun F m st H x v y Q w rv e q => by
  split at e
  · split at e
    · rename_i c
      cases e
      exact ⟨_, congrArg (fun z => [z]) (show v = _ from rv), of_decide_eq_true c, q F m H _ .refl w rfl⟩
    · cases e
  · cases e
theorem r_intS : RefC K L (fun xs H Q => ∃ a n, xs = [.str a] ∧ PySem.intText? a = some n ∧ a.length ≤ 640 ∧ Q (.int n) H) intSD := RefC.one fun F m st H x v y Q w rv e q => by
  split at e
  · rename_i a
    split at e
    · rename_i c
      cases e1 : PySem.intText? a with
      | none => rw [e1] at e; cases e
      | some n =>
        rw [e1] at e
        cases e
        exact ⟨_, n, congrArg (fun z => [z]) (show v = _ from rv), e1, of_decide_eq_true c, q F m H _ .refl w rfl⟩
    · cases e
  · cases e
theorem r_tuple : RefC K L (fun xs H Q => ∃ p ys, xs = [.ref p] ∧ ((SqL K H p ys ∧ ∀ l, H l = none → Q (.ref l) (upd H l (.tup ys))) ∨ (SqT K H p ys ∧ Q (.ref p) H))) tupleD := RefC.one fun F m st H x v y Q w rv e q => by
  unfold seqA at e
  cases e1 : seqT x with
  | some ys =>
    rw [e1] at e
    cases e
    have hx : x = .tup ys := by
      cases x <;> cases e1
      rfl
    subst hx
    obtain ⟨a, vs, rfl, h1, h2, h3⟩ := seqT_rep w rv e1
    exact ⟨a, vs, rfl, .inr ⟨h1, q F m H _ .refl w rv⟩⟩
  | none =>
    rw [e1] at e
    cases e2 : seqL st x with
    | none => rw [e2] at e; cases e
    | some ys =>
      rw [e2] at e
      cases e
      obtain ⟨a, vs, rfl, h1, h2⟩ := seqL_rep w rv e2
      exact ⟨a, vs, rfl, .inl ⟨h1, fun p hp => frozen_tup w h2 q p hp⟩⟩
theorem r_list : RefC K L (fun xs H Q => ∃ p ys, xs = [.ref p] ∧ (SqL K H p ys ∨ SqT K H p ys) ∧ ∀ l, H l = none → Q (.ref l) (upd H l (.lst ys))) listD := RefC.one fun F m st H x v y Q w rv e q => by
  cases e1 : seqA st x with
  | none => rw [e1] at e; cases e
  | some ys =>
    rw [e1] at e
    cases e
    obtain ⟨a, vs, rfl, h1, h2⟩ := seqA_rep w rv e1
    exact ⟨a, vs, rfl, h1, fun p hp => frozen_lst w h2 q p hp⟩
end
end DL
set_option Elab.async false
set_option linter.all false
set_option maxRecDepth 100000
set_option autoImplicit false
set_option maxHeartbeats 2000000
namespace DL
open PySem PySem.Spec L2 PyProof.Rows
/-! ### isinstance, built-in types -/
inductive Ty where
  | non | bl | int | str | tup | lst | dic
  deriving DecidableEq
def Ty.nm : Ty → String
  | .non => "NoneType"
  | .bl => "bool"
  | .int => "int"
  | .str => "str"
  | .tup => "tuple"
  | .lst => "list"
  | .dic => "dict"
def tyD (st : Sto) (d : D) : Option Ty :=
  match d with
  | .non => some .non
  | .bl _ => some .bl
  | .int _ => some .int
  | .str _ => some .str
  | .tup _ => some .tup
  | .lst _ => some .lst
  | .emp => some .dic
  | .scr _ => some .lst
  | .ref i => match st[i]? with
    | some (.lst _) => some .lst
    | some (.dic _) => some .dic
    | _ => none
def isT : Ty → Ty → Bool
  | .non, q => match q with
    | .non => true
    | _ => false
  | .bl, q => match q with
    | .bl => true
    | .int => true
    | _ => false
  | .int, q => match q with
    | .int => true
    | _ => false
  | .str, q => match q with
    | .str => true
    | _ => false
  | .tup, q => match q with
    | .tup => true
    | _ => false
  | .lst, q => match q with
    | .lst => true
    | _ => false
  | .dic, q => match q with
    | .dic => true
    | _ => false
def askOk : Ty → Bool
  | .non => false
  | _ => true
theorem kitB_ok (a q : Ty) (h : askOk q = true) : kitB a.nm q.nm = some (isT a q) := by
  cases q with
  | non => cases h
  | _ => cases a <;> decide +kernel
section
variable {K : PySem.W.Frag} {L : Str → Addr} {F : Hp} {m : List Addr} {st : Sto} {H : Hp}
theorem tyX_of {d : D} {v : V} {a : Ty} (w : Wd K L F m st H) (r : Rep K F m d v) (h : tyD st d = some a) : TyX K H v (.type a.nm) := by
  cases d with
  | non => cases h; cases (show v = .non from r); exact .base .non
  | bl b => cases h; cases (show v = .bl b from r); exact .base (.bl b)
  | int b => cases h; cases (show v = .int b from r); exact .base (.int b)
  | str b => cases h; cases (show v = .str b from r); exact .base (.str b)
  | tup xs =>
    cases h
    obtain ⟨a, vs, rfl, h1, _⟩ := r
    exact .base (.tup (w.sub _ _ h1))
  | lst xs =>
    cases h
    obtain ⟨a, vs, rfl, h1, _⟩ := r
    exact .base (.lst (w.sub _ _ h1))
  | emp =>
    cases h
    obtain ⟨a, rfl, h1⟩ := r
    exact .base (.dK (w.sub _ _ h1))
  | scr ns =>
    cases h
    obtain ⟨a, rfl, h1⟩ := r
    rcases Same.seq w.sub h1 with (h1 | ⟨o, h1⟩) | ⟨o, its, n, h1, h2, _⟩
    · exact .base (.lst h1)
    · exact .base (.frz h1)
    · exact .kList h1 h2
  | ref i =>
    obtain ⟨a, rfl, h2⟩ := r
    obtain ⟨o, u, e1, e2, e3⟩ := w.at_ i a h2
    simp only [tyD, e1] at h
    cases o with
    | lst xs =>
      cases h
      obtain ⟨vs, rfl, _⟩ := e3
      exact .base (.lst e2)
    | dic xs =>
      cases h
      obtain ⟨vs, rfl, _⟩ := e3
      exact .base (.dK e2)
    | ins C fs => cases h
theorem kits_ok (a : Ty) : ∀ {qs : List Ty}, (∀ q ∈ qs, askOk q = true) → PySem.W.kitAny K (.type a.nm) (qs.map fun t => Value.type t.nm) = some (qs.any (isT a))
  | [], _ => rfl
  | q :: qs, h => by
    have k := kit_ty (K := K) (kitB_ok a q (h q List.mem_cons_self))
    refine kitAny_cons k (fun z => ?_) fun z => by rw [List.any_cons, z]; rfl
    rw [List.any_cons, z, Bool.false_or]
    exact kits_ok a fun q hq => h q (List.mem_cons_of_mem _ hq)
end
def isE (qs : List Ty) (f : DX D) : DX D := un (fun st x => (tyD st x).map fun t => .bl (qs.any (isT t))) f
section
variable {X : Cx} {L : Str → Addr} {W : WX} {P : Option XP} {e : Expr} {f : DX D} {p p2 pos : Pos}
theorem d_isi {T : Ty} {ec : Expr} (hg : Gl X "isinstance") (hm : X.mg "isinstance" = none) (hq : askOk T = true) (he : PE X e (cE X.K L W P f)) (hc : PE X ec (tC (.ty T.nm)))
    (h1 : starEach (e :: [ec]) X.env = (false, eval e X.env) :: starEach [ec] X.env := by rfl) (h2 : starEach (ec :: []) X.env = (false, eval ec X.env) :: starEach [] X.env := by rfl) (hpl : (backTo pos (starEach [ec] X.env)).any (·.1) = false := by rfl) :
    PE X (.Call (.Name "isinstance" p) [e, ec] [] pos) (cE X.K L W P (isE [T] f)) := by
  have key := pe_callB (p := p) (pos := pos) call_isi hg hm PyProof.Rows.boot_isinstance (pa_cons he (pa_cons hc pa_nil h2) h1) (by decide) (by decide) h1 hpl
  refine PEw key fun s H Q ⟨F, m, st, r, w, hr, q⟩ => ?_
  refine stepG w hr q fun x st1 F1 m1 H1 v _ w1 r1 rx q1 => ?_
  obtain ⟨y, ey, q1⟩ := ofOpt_sat q1
  dsimp only at ey
  cases e1 : tyD st1 x with
  | none => rw [e1] at ey; cases ey
  | some a =>
    rw [e1] at ey
    cases ey
    have k := kit_ty (K := X.K) (kitB_ok a T hq)
    refine ⟨v, _, _, _, _, rfl, ClsV.ty T.nm, tyX_of w1 rx e1, k, ?_⟩
    have e2 : [T].any (isT a) = isT a T := by simp
    dsimp only at q1
    rw [e2] at q1
    exact q1 F1 m1 H1 _ .refl w1 rfl
theorem d_isis {ts : List Ty} {ecs : List Expr} {k : Nat} (hg : Gl X "isinstance") (hm : X.mg "isinstance" = none) (hq : ∀ q ∈ ts, askOk q = true) (hl : ts.length ≤ 1000) (he : PE X e (cE X.K L W P f)) (hc : PA X ecs (tConsts (ts.map fun t => V.ty t.nm)))
    (h1 : starEach (e :: [.Tuple ecs k p2]) X.env = (false, eval e X.env) :: starEach [.Tuple ecs k p2] X.env := by rfl) (h2 : starEach (.Tuple ecs k p2 :: []) X.env = (false, eval (.Tuple ecs k p2) X.env) :: starEach [] X.env := by rfl) (hpl : (backTo pos (starEach [.Tuple ecs k p2] X.env)).any (·.1) = false := by rfl) :
    PE X (.Call (.Name "isinstance" p) [e, .Tuple ecs k p2] [] pos) (cE X.K L W P (isE ts f)) := by
  have key := pe_callB (p := p) (pos := pos) call_isiT hg hm PyProof.Rows.boot_isinstance (pa_cons he (pa_cons (pe_tup hc) pa_nil h2) h1) (by decide) (by decide) h1 hpl
  refine PEw key fun s H Q ⟨F, m, st, r, w, hr, q⟩ => ?_
  refine stepG w hr q fun x st1 F1 m1 H1 v _ w1 r1 rx q1 => ?_
  obtain ⟨y, ey, q1⟩ := ofOpt_sat q1
  dsimp only at ey
  cases e1 : tyD st1 x with
  | none => rw [e1] at ey; cases ey
  | some a =>
    rw [e1] at ey
    cases ey
    refine ⟨by rw [List.length_map, sizeLine_eq]; omega, fun tp htp => ?_⟩
    have hx : Ext F1 m1 H1 (upd F1 tp (.tup (ts.map fun t => V.ty t.nm))) m1 (upd H1 tp (.tup (ts.map fun t => V.ty t.nm))) := Ext.froze (w1.new_F htp) htp
    have w2 := w1.froze (o := .tup (ts.map fun t => V.ty t.nm)) htp
    have pc : ∀ l : List Ty, Paired ClsV (l.map fun t => V.ty t.nm) (l.map fun t => Value.type t.nm) := by
      intro l
      induction l with
      | nil => exact .nil
      | cons q l ih => exact .cons (.ty q.nm) ih
    exact ⟨v, tp, _, _, _, _, rfl, upd_same, pc ts, tyX_of w2 (rx.ext hx) e1, kits_ok a hq, q1 _ m1 _ _ hx w2 rfl⟩
end

/-! ### repr -/
def shD (d : D) : Option Nat :=
  match d with
  | .emp => some 1
  | d => D.ht d
def reprD : Sto → List D → Option D := one1 fun st x =>
  match shD (D.see st x) with
  | some n => if (decide (n ≤ 60) && (D.pd (D.see st x)).showable && big (D.pd (D.see st x)).shown.length) = true then some (.str (D.pd (D.see st x)).shown) else none
  | none => none
def rRepr (K : PySem.W.Frag) : List V → Hp → VK → Prop := fun xs H Q => ∃ v d, xs = [v] ∧ ((Dp K H v d ∧ d.plain = true) ∨ ∃ a, v = .ref a ∧ H a = some (.dK []) ∧ d = .dict []) ∧ d.depth ≤ 60 ∧ d.showable = true ∧ d.shown.length ≤ sizeLine ∧ Q (.str d.shown) H
theorem noDict_plain : ∀ d : PyData, d.plain = true → d.hasDict = false := by
  intro d
  exact (PyData.rec (motive_1 := fun d => d.plain = true → d.hasDict = false) (motive_2 := fun l => PyData.plainAll l = true → PyData.hasDictAll l = false) (motive_3 := fun _ => True) (motive_4 := fun _ => True)
    (fun _ => rfl) (fun _ _ => rfl) (fun _ _ => rfl) (fun _ _ => rfl) (fun l ih h => by simpa only [PyData.hasDict] using ih (by simpa only [PyData.plain] using h)) (fun l ih h => by simpa only [PyData.hasDict] using ih (by simpa only [PyData.plain] using h)) (fun _ _ h => by cases h)
    (fun _ => rfl) (fun x l h1 h2 h => by
      simp only [PyData.plainAll, Bool.and_eq_true] at h
      simp only [PyData.hasDictAll, h1 h.1, h2 h.2, Bool.or_self]) trivial (fun _ _ _ _ => trivial) (fun _ _ _ _ => trivial) d)
theorem call_repr {X : Cx} (hu : X.A.units + 65 < cLine) (hgd : X.A.guards = some []) : CallR X (.builtin "repr") (rRepr X.K) := by
  intro pins s σ H xs us Q I r h
  obtain ⟨v, d, rfl, hd, hn, hs, hz, q⟩ := h
  obtain ⟨u, rfl, rv⟩ := vals1 r
  rcases hd with ⟨hd, hp⟩ | ⟨a, rfl, ha, rfl⟩
  · obtain ⟨as, rd⟩ := Dp.reads I d v u hd rv
    cases hd with
    | non => cases rv; exact PySem.P.repr_of_none ⟨.str _, H, I.tok _, ⟨_, rfl⟩, q⟩
    | bl b =>
      cases rv
      refine PySem.P.repr_of_bool ⟨.str _, H, I.tok _, ⟨_, rfl⟩, q⟩
    | int i =>
      obtain ⟨t, rfl⟩ := rv
      exact PySem.P.repr_of_int (of_decide_eq_true hs) ⟨.str _, H, I.tok _, ⟨_, rfl⟩, q⟩
    | str i =>
      obtain ⟨t, rfl⟩ := rv
      exact PySem.P.repr_of_str ⟨.str _, H, I.tok _, ⟨_, rfl⟩, q⟩ hz
    | lst h1 h2 =>
      cases rv
      exact PySem.repr_of_reads' rd hs (fun z => by rw [noDict_plain _ hp] at z; cases z) hgd (by omega) (fun _ _ z => z) (fun h' t tk hk => ⟨.str _, H, I.kept hk, ⟨_, rfl⟩, q⟩) hz
    | tup h1 h2 =>
      cases rv
      exact PySem.repr_of_reads' rd hs (fun z => by rw [noDict_plain _ hp] at z; cases z) hgd (by omega) (fun _ _ z => z) (fun h' t tk hk => ⟨.str _, H, I.kept hk, ⟨_, rfl⟩, q⟩) hz
  · cases rv
    obtain ⟨_, hsys, vs, kv, o, es, ep, h1, h2, h3, h4, h5, h6⟩ := dk_of I.hok ha
    have e0 : vs = [] := by cases kv; rfl
    subst e0
    have e1 : es.toList = [] := by
      cases e : es.toList with
      | nil => rfl
      | cons a l => rw [e] at h5; cases h5
    have rd : Reads s.heap (.ref a) (.dict []) (a :: [] ++ []) := .dict h1 h2.1 h3 (by rw [e1]; exact .nil) (by rw [e1]; exact .nil)
    refine PySem.repr_of_reads' rd hs (fun _ hm => ?_) hgd (by omega) (fun _ _ z => z) (fun h' t tk hk => ⟨.str _, H, I.kept hk, ⟨_, rfl⟩, q⟩) hz
    simp at hm
    rw [← hm] at hsys
    simp at hsys
section
variable {K : PySem.W.Frag} {L : Str → Addr}
theorem r_repr : RefC K L (rRepr K) reprD := RefC.one fun F m st H x v y Q w rv e q => by
  split at e
  · rename_i n en
    split at e
    · rename_i c
      cases e
      simp only [Bool.and_eq_true, decide_eq_true_eq] at c
      refine ⟨v, _, rfl, ?_, ?_, c.1.2, big_line c.2, q F m H _ .refl w rfl⟩
      · unfold shD at en
        split at en
        · rename_i e0
          right
          have hx : x = .emp := by
            unfold D.see at e0
            split at e0
            · cases e0
            · exact e0
          subst hx
          obtain ⟨a, rfl, h1⟩ := rv
          exact ⟨a, rfl, w.sub _ _ h1, rfl⟩
        · exact .inl ⟨dp_see w rv en, (D.ht_ok _ _ en).1⟩
      · unfold shD at en
        split at en
        · rename_i e0
          rw [e0]
          decide
        · rw [(D.ht_ok _ _ en).2]; exact c.1.1
    · cases e
  · cases e
end
end DL
set_option Elab.async false
set_option linter.all false
set_option maxRecDepth 100000
set_option autoImplicit false
set_option maxHeartbeats 2000000
namespace DL
open PySem PySem.Spec L2 PyProof.Rows
/-! ### the end: a law's def, called with the script -/
/-- what may be tracked when the law is called: nothing, or the script alone as a list that never changes -/
structure Begin (P : Program) (w : PySem.World) (K : PySem.W.Frag) (h : Heap) (a : Addr) (ns : List Int) (H : Hp) : Prop where
  seq : SqL K H a (ns.map V.int)
  ok : HOk P w H h
  at_ : ∀ b u, H b = some u → b = a ∧ K.lookup a = none ∧ (∃ its n, h.get? a = some { cls := .type "list", data := .seq its n }) ∧ ∃ o xs, u = .frz o (.lst xs)
theorem begin_of {P : Program} {w : PySem.World} {K : PySem.W.Frag} {h : Heap} {a : Addr} {vs : List Value} {ns : List Int} (KX : K.In h) (ha : h.get? a = some { cls := .type "list", data := .seq vs.toArray }) (hi : IntsAre vs ns) (hl : ns.length ≤ sizeLine) : ∃ H, Begin P w K h a ns H := by
  have hv : Vals (ns.map V.int) vs := vals_ints hi
  have hn : vs.length = ns.length := by rw [hi.length]
  cases hk : K.lookup a with
  | some o =>
    obtain rfl := Option.some.inj ((KX a o hk).symm.trans ha)
    refine ⟨fun _ => none, .inr ⟨_, vs.toArray, _, hk, rfl, rfl, rfl, ?_, by simpa using hv⟩, fun b u e => (nomatch e), fun b u e => (nomatch e)⟩
    rw [List.size_toArray, hn]
    exact hl
  | none =>
    let ob : Obj := { cls := .type "list", data := .seq vs.toArray }
    have off : ∀ b, b ≠ a → upd (fun _ => none) a (.frz ob (.lst (ns.map V.int))) b = none := fun b hb => upd_ne hb
    have on : upd (fun _ => none) a (.frz ob (.lst (ns.map V.int))) a = some (.frz ob (.lst (ns.map V.int))) := upd_same
    refine ⟨upd (fun _ => none) a (.frz ob (.lst (ns.map V.int))), .inl (.inr ⟨ob, on⟩), fun b u e => ?_, fun b u e => ?_⟩
    · by_cases hb : b = a
      · subst hb
        obtain rfl := Option.some.inj (on.symm.trans e)
        exact ⟨ha, by rw [List.length_map]; exact hl, vs, _, hv, ha⟩
      · rw [off b hb] at e; cases e
    · by_cases hb : b = a
      · subst hb
        obtain rfl := Option.some.inj (on.symm.trans e)
        exact ⟨rfl, hk, ⟨_, _, ha⟩, _, _, rfl⟩
      · rw [off b hb] at e; cases e
/-- a def of the module: where it stands, what its text is -/
structure DefAt (K : PySem.W.Frag) (mg : Str → Option Value) (x : Str) (st : Stmt) : Prop where
  ex : ∃ f fd, mg x = some (.ref f) ∧ Fun K x x st f fd
/-- a def that may be called by its name: what it tells -/
structure Cal (P : Program) (w : PySem.World) (K : PySem.W.Frag) (L : Str → Addr) (mg : Str → Option Value) (base : Heap) (k : Nat) (x : Str) (n : Nat) (den : List D → Sto → O D) : Prop where
  ex : ∃ f fd ps, mg x = some (.ref f) ∧ PySem.W.keepIn K (.ref f) = true ∧ ps.length = n ∧ FnG P w K mg base k f fd ps (spD K L n den) ∧ Binds K fd ps []
section
variable {P : Program} {w : PySem.World} {K : PySem.W.Frag} {L : Str → Addr} {mg : Str → Option Value} {base : Heap}
theorem Cal.mono {j k n : Nat} {x : Str} {den : List D → Sto → O D} (C : Cal P w K L mg base j x n den) (h : j ≤ k) : Cal P w K L mg base k x n den := by
  obtain ⟨f, fd, ps, a, b, c, d, e⟩ := C.ex
  exact ⟨f, fd, ps, a, b, c, d.mono h, e⟩
theorem Cal.gc {k n : Nat} {x : Str} {den : List D → Sto → O D} (C : Cal P w K L mg base k x n den) : Cal P w K L mg base k x n (gcF den) := by
  obtain ⟨f, fd, ps, a, b, c, d, e⟩ := C.ex
  exact ⟨f, fd, ps, a, b, c, d.gc, e⟩
/-- from the def's text, its slots, its body -/
theorem cal_of {x : Str} {st : Stmt} {N ps : List Str} {k : Nat} {b : DS} (Df : DefAt K mg x st) (S : FnScope N ps (defScope st)) (hb : ∀ f fd, Fun K x x st f fd → Binds K fd ps [])
    (hbody : ∀ (f : Addr) (cdv : Value) (A : Around) (outer : List PySem.Env) (s : Shared) (H : Hp) (E : XK), Room k (A.deeper (PyProof.Rows.envOfC x (defScope st) s.heap.objs.size f cdv)) → (A.deeper (PyProof.Rows.envOfC x (defScope st) s.heap.objs.size f cdv)).guards = some [] →
      PSs (cxOf (L2.CX P w) P w K mg base N x (defScope st) f cdv A outer s H E) (defBody st) (cS K L (fun cls d _ H => E cls d H) none b)) : Cal P w K L mg base (k + 1) x ps.length (runB N.length b) := by
  obtain ⟨f, fd, hm, F⟩ := Df.ex
  exact ⟨f, fd, ps, hm, F.kp, rfl, fnD F S (hbody f), hb f fd F⟩
/-- of nothing nothing is told -/
def badF : List D → Sto → O D := fun _ _ => .bad
theorem cal_bad {x : Str} {st : Stmt} {k : Nat} (ps : List Str) (Df : DefAt K mg x st) (hb : ∀ f fd, Fun K x x st f fd → Binds K fd ps []) : Cal P w K L mg base k x ps.length badF := by
  obtain ⟨f, fd, hm, F⟩ := Df.ex
  exact ⟨f, fd, ps, hm, F.kp, rfl, ⟨fun vs H Q E h => h.1, fun A outer s H args us vs Q E _ _ _ _ _ ⟨_, _, _, _, _, _, _, z⟩ => z.elim⟩, hb f fd F⟩
end
section
variable {X : Cx} {L : Str → Addr} {W : WX} {P : Option XP} {fl : DX (List D)} {pos p : Pos}
theorem d_callC {k n : Nat} {den : List D → Sto → O D} {x : Str} {e : Expr} {es : List Expr} (C : Cal X.prog X.w X.K L X.mg X.base k x n den) (hr : Room k X.A) (hgd : X.A.guards = some []) (hg : Gl X x) (tk : Takes X W) (ha : PA X (e :: es) (cA X.K L W P fl))
    (hdb : (x == ("__debug__" : Str)) = false := by decide) (he : starEach (e :: es) X.env = (false, eval e X.env) :: starEach es X.env := by rfl) (hpl : (backTo pos (starEach es X.env)).any (·.1) = false := by rfl) :
    PE X (.Call (.Name x p) (e :: es) [] pos) (cE X.K L W P (callE (arity n den) fl)) := by
  obtain ⟨f, fd, ps, hm, hk, _, F, hb⟩ := C.ex
  exact d_callG F hr hgd hg hm hk hb tk ha hdb he hpl
theorem d_callC0 {k n : Nat} {den : List D → Sto → O D} {x : Str} (C : Cal X.prog X.w X.K L X.mg X.base k x n den) (hr : Room k X.A) (hgd : X.A.guards = some []) (hg : Gl X x) (tk : Takes X W) (hdb : (x == ("__debug__" : Str)) = false := by decide) :
    PE X (.Call (.Name x p) [] [] pos) (cE X.K L W P (callE (arity n den) nilA)) := by
  obtain ⟨f, fd, ps, hm, hk, _, F, hb⟩ := C.ex
  exact d_callG0 F hr hgd hg hm hk hb tk hdb
/-- a global constant -/
theorem d_gc {x : Str} {v : V} {d : D} (hg : Gl X x) (h : ∃ u, X.mg x = some u ∧ RelV v u) (r : ∀ F m, Rep X.K F m d v) (hdb : (x == ("__debug__" : Str)) = false := by decide) : PE X (.Name x pos) (cE X.K L W P (con d)) := by
  obtain ⟨u, h1, h2⟩ := h
  exact d_con (pe_glob hg h1 h2 hdb) r
/-- {} -/
def empE : DX D := fun _ st => .val .emp st
theorem d_emp : PE X (.Dict [] [] pos) (cE X.K L W P empE) := by
  refine PEw pe_dnewK fun s H Q ⟨F, m, st, r, w, hr, q⟩ p hp => ?_
  exact q _ m _ _ (Ext.froze (w.new_F hp) hp) (w.froze hp) ⟨p, rfl, upd_same⟩
theorem d_if1 {t : Expr} {ft : DX Bool} (h : PT X t (cT X.K L W P ft)) : PTs X [t] (cT X.K L W P ft) := pts_one h
theorem tk0 : Takes X W0 := takes0
end
theorem end_call {P : Program} {w : PySem.World} {K : PySem.W.Frag} {L : Str → Addr} {mg mb : Str → Option Value} {k : Nat} {fa a : Addr} {x : Str} {den : List D → Sto → O D} {s : Shared} {vs : List Value} {ns : List Int} (KX : K.In s.heap)
    (hm : s.heap.Ns mainGlobals mg) (hb : s.heap.Ns builtinsNs mb) (hbb : ∀ y : Str, y ≠ "__name__" → mb y = bootBuiltins y) (hlim : s.heap.NoLimit) (hg : s.gens = #[]) (ha : s.heap.get? a = some { cls := .type "list", data := .seq vs.toArray }) (hi : IntsAre vs ns) (hl : ns.length ≤ sizeLine)
    (hr : Room k callerA) (hfa : mg x = some (.ref fa)) (C : ∀ base : Heap, K.In base → base.Ns mainGlobals mg → Cal P w K L mg base k x 1 den) (law : (den [.scr ns] []).sat (fun d _ => d = .bl true) fun _ _ => False) :
    codeAny (model P w) callerA (.call (.ref fa) ⟨[.ref a], []⟩) (fun r t => r = .ok (.ret (.bool true)) ∧ OldK s.heap t.heap ∧ t.os = s.os ∧ AllBare t.gens) s := by
  obtain ⟨H, B⟩ := begin_of (P := P) (w := w) KX ha hi hl
  -- the heap without the script: what the module has is still there
  have stay : ∀ {b : Addr} {o : Obj}, s.heap.get? b = some o → H b = none → (hidT s.heap H).get? b = some o := fun e n => hidT_get e n
  have dicts : ∀ {b : Addr} {o : Obj} {es : Array DictEntry} {ep : Nat}, s.heap.get? b = some o → o.data = .dict es ep → H b = none := by
    intro b o es ep e d
    cases q : H b with
    | none => rfl
    | some u =>
      obtain ⟨rfl, _, ⟨its, n, hl⟩, _⟩ := B.at_ b u q
      rw [hl] at e
      obtain rfl := Option.some.inj e
      exact nomatch d
  have spaces : ∀ {b : Addr} {m : Str → Option Value}, s.heap.Ns b m → (hidT s.heap H).Ns b m := by
    rintro b m ⟨o, es, ep, e, d, r⟩
    exact ⟨o, es, ep, stay e (dicts e d), d, r⟩
  have KB : K.In (hidT s.heap H) := by
    intro b o e
    refine stay (KX b o e) ?_
    cases q : H b with
    | none => rfl
    | some u =>
      obtain ⟨rfl, n, _⟩ := B.at_ b u q
      rw [n] at e
      exact nomatch e
  have M : Mod K mg (hidT s.heap H) := by
    obtain ⟨mc, c1, c2⟩ := hlim
    exact ⟨KB, spaces hm, ⟨mb, spaces hb, hbb⟩, mc, spaces c1, c2⟩
  have none0 : ∀ b : Addr, ¬ b ∈ ([] : List Addr) := fun b z => nomatch z
  have E : Env0 P w K mg (hidT s.heap H) callerA [] s H := ⟨rfl, M, fun b o e => of_hidT e, Nat.le_of_eq (hidT_size _ _), trivial, fun b z => absurd z (none0 b), B.ok, .of_eq hg⟩
  have W0 : Wd K L H [] [] H := ⟨fun _ _ z => z, rfl, List.nodup_nil, fun b z => absurd z (none0 b), fun i b z => by simp at z⟩
  have sp : spD K L 1 den [.ref a] H (fun v _ => v = .bl true) (fun _ _ _ => False) := by
    refine ⟨rfl, H, [], [], [.scr ns], W0, ⟨_, [], rfl, ⟨a, rfl, B.seq⟩, rfl⟩, law.imp (fun d t z => ?_) fun _ _ z => z.elim⟩
    subst z
    exact fun F' m' H' v _ _ r => r
  obtain ⟨f, fd, ps, e1, _, e2, G, bnd⟩ := (C _ KB (spaces hm)).ex
  rw [hfa] at e1
  cases e1
  have b := bnd s [.ref a] KX (by rw [e2]; rfl)
  rw [List.append_nil] at b
  refine codeAny_mono (G.run callerA [] s H ⟨[.ref a], []⟩ [.ref a] [.ref a] _ _ hr rfl E b (.cons rfl .nil) sp) ?_
  intro r t h
  match r, h with
  | .error e, ⟨_, _, _, _, _, _, _, _, _, _, _, _, z⟩ => exact z.elim
  | .ok .next, h => exact False.elim h
  | .ok .brk, h => exact False.elim h
  | .ok .cont, h => exact False.elim h
  | .ok (.ret u), ⟨v, H', os, bare, un, ok', ru, hv⟩ =>
    have hv : v = .bl true := hv
    subst hv
    obtain rfl : u = Value.bool true := ru
    refine ⟨rfl, OldK.of_keep fun b o e => ?_, os, bare⟩
    cases q : H b with
    | none => exact un.keep b o e q (none0 b) (none0 b)
    | some y =>
      obtain ⟨_, _, _, ob, xs, rfl⟩ := B.at_ b y q
      have now : (s.heap.get? b) = some ob := (show ObjOk P w H s.heap b (.frz ob (.lst xs)) from B.ok b _ q).1
      have then_ : t.heap.get? b = some ob := (show ObjOk P w H' t.heap b (.frz ob (.lst xs)) from ok' b _ (un.frzs b ob _ q)).1
      exact then_.trans (now.symm.trans e)
/-- THE END of a law -/
theorem end_walk {l : PySem.W.OpenLaw} {n k : Nat} {q : Program} {loose : List Str} {XP : (Str → Option Value) → Heap → Prop} {YP : PySem.World → Heap → Prop} {d : DefRec} {K : Params → PySem.W.Frag} {den : List D → Sto → O D}
    (hn : l.most = some n) (hn2 : n ≤ sizeLine) (hdf : d.params.defaults = []) (hr : Room k callerA) (hY : ∀ (w : PySem.World) (h : Heap), YP w h → (K w.params).In h)
    (G : ∀ (w : PySem.World) (mg : Str → Option Value) (h : Heap), (K w.params).In h → h.Ns mainGlobals mg → XP mg h → ∃ L : Str → Addr, ∀ base : Heap, (K w.params).In base → base.Ns mainGlobals mg → Cal l.prog w (K w.params) L mg base k d.name 1 den)
    (law : ∀ ns : List Int, ns.length ≤ n → (den [.scr ns] []).sat (fun d _ => d = .bl true) fun _ _ => False) : PySem.W.WalkO q loose XP YP l.row.toRowW d [] (fun f vs => PySem.call f vs) := by
  refine Att.attach_call hn hdf fun w s0 s1 mg mb fa o pm cd doc a vs ns T Y ho hd hcd hmg hobj hi hlen hg => ?_
  obtain ⟨L, C⟩ := G w mg _ (hY w _ Y) T.T.g T.X
  exact end_call (hY w _ Y) T.T.g T.T.b T.T.builtins T.T.nolimit hg hobj hi (Nat.le_trans hlen hn2) hr hmg C (law ns hlen)
end DL
set_option Elab.async false
set_option linter.all false
set_option maxRecDepth 100000
set_option autoImplicit false
set_option maxHeartbeats 2000000
namespace DL
open PySem PySem.Spec L2 PyProof.Rows
/-! ### addresses by name -/
def mkL : List (Str × Addr) → Str → Addr
  | [], _ => 0
  | (n, a) :: r, x => if n = x then a else mkL r x
theorem mkL_here {n : Str} {a : Addr} {r : List (Str × Addr)} : mkL ((n, a) :: r) n = a := if_pos rfl
theorem mkL_skip {n x : Str} {a b : Addr} {r : List (Str × Addr)} (hne : n ≠ x) (h : mkL r x = b) : mkL ((n, a) :: r) x = b := (if_neg hne).trans h
theorem fr0 {i : Nat} : free none i := fun _ e => nomatch e
theorem frS {i j : Nat} {a : Addr} {x : Ex} {d : Option Addr} (h : i ≠ j) : free (some ⟨i, a, x, d⟩) j := fun q e => by cases e; exact h
/-! ### making errors -/
/-- a class of errors without an __init__ of its own -/
structure ErrAt (K : PySem.W.Frag) (mg : Str → Option Value) (L : Str → Addr) (x : Str) : Prop where
  g : mg x = some (.ref (L x))
  ex : ∃ (bmB : List Value) (B newId initId : String), ExcBaseFacts B newId initId bmB ∧ PySem.W.excIn K (L x) bmB newId = true
/-- one with an __init__ that keeps what is handed in -/
structure ErrI (K : PySem.W.Frag) (mg : Str → Option Value) (L : Str → Addr) (x q : Str) (st : Stmt) (fs : List Str) : Prop where
  g : mg x = some (.ref (L x))
  oex : OexC K (L x)
  no : ∀ f ∈ fs, PySem.W.findIn K (.ref (L x)) f = some none
  ex : ∃ fI fd, PySem.W.findIn K (.ref (L x)) "__init__" = some (some (.ref fI)) ∧ PySem.W.typeIn K (.ref fI) = some (.type "function") ∧ Fun K "__init__" q st fI fd
structure InitOk (P : Program) (w : PySem.World) (K : PySem.W.Frag) (mg : Str → Option Value) (base : Heap) (L : Str → Addr) (x : Str) (fs : List Str) : Prop where
  g : mg x = some (.ref (L x))
  oex : OexC K (L x)
  ex : ∃ fI fd, PySem.W.findIn K (.ref (L x)) "__init__" = some (some (.ref fI)) ∧ PySem.W.typeIn K (.ref fI) = some (.type "function") ∧ FnOk P w K mg base CX0 1 fI fd ("self" :: fs) (spI (L x) fs) ∧ Binds K fd ("self" :: fs) []
section
variable {P : Program} {w : PySem.World} {K : PySem.W.Frag} {mg : Str → Option Value} {base : Heap} {L : Str → Addr} {x q : Str} {st : Stmt}
theorem initOk1 {f : Str} (E : ErrI K mg L x q st [f]) (S : FnScope ["self", f] ["self", f] (defScope st)) (hb : ∀ fI fd, Fun K "__init__" q st fI fd → Binds K fd ["self", f] [])
    (h : ∀ (f1 : Addr) (cdv : Value) (A : Around) (outer : List PySem.Env) (s : Shared) (H : Hp) (Ek : XK), PSs (cxOf CX0 P w K mg base ["self", f] q (defScope st) f1 cdv A outer s H Ek).nox (defBody st) (tOst K f (tVar 0) (tVar 1))) : InitOk P w K mg base L x [f] := by
  obtain ⟨fI, fd, h1, h2, F⟩ := E.ex
  refine ⟨E.g, E.oex, fI, fd, h1, h2, F.ok S (fun vs H Q Ek z => ?_) fun cdv A outer s H vs Q Ek hr z => ⟨_, h fI cdv A outer s H Ek, init1_reads E.oex (E.no f (by simp)) z⟩, hb fI fd F⟩
  obtain ⟨a, ys, rfl, hl, _⟩ := z
  simpa using hl
theorem initOk2 {f g : Str} (E : ErrI K mg L x q st [f, g]) (S : FnScope ["self", f, g] ["self", f, g] (defScope st)) (hb : ∀ fI fd, Fun K "__init__" q st fI fd → Binds K fd ["self", f, g] [])
    (h : ∀ (f1 : Addr) (cdv : Value) (A : Around) (outer : List PySem.Env) (s : Shared) (H : Hp) (Ek : XK), PSs (cxOf CX0 P w K mg base ["self", f, g] q (defScope st) f1 cdv A outer s H Ek).nox (defBody st) (tSeq (tOst K f (tVar 0) (tVar 1)) (tOst K g (tVar 0) (tVar 2)))) : InitOk P w K mg base L x [f, g] := by
  obtain ⟨fI, fd, h1, h2, F⟩ := E.ex
  refine ⟨E.g, E.oex, fI, fd, h1, h2, F.ok S (fun vs H Q Ek z => ?_) fun cdv A outer s H vs Q Ek hr z => ⟨_, h fI cdv A outer s H Ek, init2_reads E.oex (E.no f (by simp)) (E.no g (by simp)) z⟩, hb fI fd F⟩
  obtain ⟨a, ys, rfl, hl, _⟩ := z
  simpa using hl
end
section
variable {X : Cx} {L : Str → Addr} {W : WX} {P : Option XP} {fl : DX (List D)} {pos p : Pos}
theorem d_er0 {x : Str} {T : ExTab} {Qs : List CD} (E : ErrAt X.K X.mg L x) (ok : ExOk X.K L T Qs) (ht : T.any (fun p => p.1 == x) = true) (hg : Gl X x) (hdb : (x == ("__debug__" : Str)) = false := by decide) : PMk X (.Call (.Name x p) [] [] pos) (cX X.K L W P (ex0 x)) := by
  obtain ⟨bmB, B, newId, initId, F, q⟩ := E.ex
  obtain ⟨y, hy, hx⟩ := List.any_eq_true.mp ht
  have hx := beq_iff_eq.mp hx
  have k := ok.cls y hy
  rw [hx] at k
  exact d_ex0 F q k E.g hg hdb
theorem d_erI {x : Str} {fs : List Str} {e : Expr} {es : List Expr} (hfs : fs.Nodup) (I : InitOk X.prog X.w X.K X.mg X.base L x fs) (hr : Room 2 X.A) (hg : Gl X x) (hne : fs ≠ []) (hl : fs.length ≤ 900) (ha : PA X (e :: es) (cA X.K L W P fl))
    (hdb : (x == ("__debug__" : Str)) = false := by decide) (he : starEach (e :: es) X.env = (false, eval e X.env) :: starEach es X.env := by rfl) (hpl : (backTo pos (starEach es X.env)).any (·.1) = false := by rfl) :
    PMk X (.Call (.Name x p) (e :: es) [] pos) (cX X.K L W P (exA x fs fl)) := by
  obtain ⟨fI, fd, h1, h2, F, hb⟩ := I.ex
  exact d_exA hfs I.oex h1 h2 F hr hb hg I.g hne hl ha hdb he hpl
end
/-- an own class is named by an except clause -/
theorem nm_own {X : Cx} {L : Str → Addr} {x : Str} (hg : Gl X x) (hm : X.mg x = some (.ref (L x))) (hdb : (x == ("__debug__" : Str)) = false := by decide) : Names X x ((CD.own x).val L) := ⟨hg, hdb, .inl hm⟩
theorem cst_int {mg : Str → Option Value} {x : Str} {i : Int} {t : Tok} (h : mg x = some (.int i t)) : ∃ u, mg x = some u ∧ RelV (.int i) u := ⟨_, h, t, rfl⟩
theorem cst_str {mg : Str → Option Value} {x z : Str} {t : Tok} (h : mg x = some (.str z t)) : ∃ u, mg x = some u ∧ RelV (.str z) u := ⟨_, h, t, rfl⟩
theorem cst_loose {p : Program} {lv : List (Str × PySem.W.WData)} {mg : Str → Option Value} {h : Heap} {x : Str} {i : Int} (X : PySem.W.XL p lv mg h) (hm : (x, PySem.W.WData.int i) ∈ lv) : ∃ u, mg x = some u ∧ RelV (.int i) u := by
  obtain ⟨v, a, b⟩ := X.2.val _ hm
  refine ⟨v, a, ?_⟩
  cases b with
  | int i t => exact ⟨_, rfl⟩
end DL
set_option Elab.async false
set_option linter.all false
set_option maxRecDepth 100000
set_option autoImplicit false
set_option maxHeartbeats 2000000
namespace DL
open PySem PySem.Spec L2 PyProof.Rows
theorem bt_len : bootBuiltins "len" = some (.builtin "len") := by decide +kernel
theorem bt_abs : bootBuiltins "abs" = some (.builtin "abs") := by decide +kernel
theorem bt_max : bootBuiltins "max" = some (.builtin "max") := by decide +kernel
theorem bt_min : bootBuiltins "min" = some (.builtin "min") := by decide +kernel
theorem bt_sum : bootBuiltins "sum" = some (.builtin "sum") := by decide +kernel
theorem bt_any : bootBuiltins "any" = some (.builtin "any") := by decide +kernel
theorem bt_all : bootBuiltins "all" = some (.builtin "all") := by decide +kernel
theorem bt_repr : bootBuiltins "repr" = some (.builtin "repr") := by decide +kernel
theorem bt_sorted : bootBuiltins "sorted" = some (.builtin "sorted") := by decide +kernel
theorem bt_int : bootBuiltins "int" = some (.type "int") := by decide +kernel
theorem bt_str : bootBuiltins "str" = some (.type "str") := by decide +kernel
theorem bt_bool : bootBuiltins "bool" = some (.type "bool") := by decide +kernel
theorem bt_tuple : bootBuiltins "tuple" = some (.type "tuple") := by decide +kernel
theorem bt_list : bootBuiltins "list" = some (.type "list") := by decide +kernel
theorem bt_dict : bootBuiltins "dict" = some (.type "dict") := by decide +kernel
theorem bt_ValueError : bootBuiltins "ValueError" = some (.type "ValueError") := by decide +kernel
theorem hu64 {A : Around} {k : Nat} (hr : Room k A) : A.units + 64 < cLine := hr.units
theorem hu65 {A : Around} {k : Nat} (hr : Room k A) : A.units + 65 < cLine := by have := hr.un; omega
section
variable {X : Cx} {K : PySem.W.Frag} {L : Str → Addr}
def intX : Sto → List D → Option D := fun st x => (intD st x).or (intSD st x)
def rIntX : List V → Hp → VK → Prop := fun xs H Q => ((∃ i, xs = [.int i] ∧ Q (.int i) H) ∨ ∃ k, xs = [.bl k] ∧ Q (.int (if k then 1 else 0)) H) ∨ ∃ a n, xs = [.str a] ∧ PySem.intText? a = some n ∧ a.length ≤ 640 ∧ Q (.int n) H
theorem o_int : CallR X (.type "int") rIntX := call_int1.or call_int_str
theorem r_intX : RefC K L rIntX intX := r_int.or r_intS
/-! ### methods of lists -/
def chkL : Sto → D → Bool := fun st d => (seqL st d).isSome
theorem chkL_ok : ChkOk K L "list" chkL := by
  intro F m st H x v w r e
  obtain ⟨xs, ex⟩ := Option.isSome_iff_exists.mp e
  obtain ⟨a, vs, rfl, h1, _⟩ := seqL_rep w r ex
  exact .inl ⟨rfl, _, h1⟩
/-- xs.append(y), xs a list of the store -/
def appD : Sto → D → List D → Option (D × Sto) := fun st x ys =>
  match x, ys with
  | .ref i, [y] => match st[i]? with
    | some (.lst xs) => if big (xs.length + 1) = true then some (.non, st.set i (.lst (xs ++ [y]))) else none
    | _ => none
  | _, _ => none
theorem r_app : RefM K L rAppend appD := by
  intro F m st H x v ys vs z st' Q w rx ry e q
  unfold appD at e
  split at e
  · rename_i i y
    split at e
    · rename_i xs es
      split at e
      · rename_i c
        simp only [Option.some.injEq, Prod.mk.injEq] at e
        obtain ⟨rfl, rfl⟩ := e
        obtain ⟨u, rfl, ru⟩ := Reps.one ry
        obtain ⟨a, rfl, hi⟩ := rx
        obtain ⟨o, h, e1, e2, e3⟩ := w.at_ i a hi
        rw [es] at e1
        cases e1
        obtain ⟨us, rfl, r⟩ := e3
        have hl := Reps.length r
        have b := big_line c
        refine ⟨a, us, u, rfl, rfl, e2, by omega, ?_⟩
        exact q F m _ .non (Ext.put (List.mem_of_getElem? hi)) (w.put (o := .lst (xs ++ [y])) hi ⟨us ++ [u], rfl, Reps.app2 r ⟨u, [], rfl, ru, rfl⟩⟩) rfl
      · cases e
    · cases e
  · cases e
theorem d_append {W : WX} {P : Option XP} {fo : DX D} {fl : DX (List D)} {o e : Expr} {es : List Expr} {ap cp : Pos} (h : PE X (.Call (.Attribute o "append" ap) (e :: es) [] cp) (tBM X.K "list" rAppend (cE X.K L W P fo) (cA X.K L W P fl))) : PE X (.Call (.Attribute o "append" ap) (e :: es) [] cp) (cE X.K L W P (methE chkL appD fo fl)) := d_meth h r_app chkL_ok
end
end DL
set_option Elab.async false
set_option linter.all false
set_option maxRecDepth 100000
set_option autoImplicit false
namespace DL
open PySem PySem.Spec L2
/-! ### reckoning with the plain functions: each step's rest as a function of its own -/
def finB (o : OS) : O D :=
  match o with
  | .rt d st' => .val d st'
  | .nx _ st' => .val .non st'
  | .exc e _ st' => .exc e st'
  | _ => .bad
theorem runB_ap (n : Nat) (b : DS) (ds : List D) (st : Sto) : runB n b ds st = finB (b (ds.map some ++ List.replicate (n - ds.length) none) st) := rfl
@[simp] theorem finB_rt (d : D) (st : Sto) : finB (.rt d st) = .val d st := Eq.trans rfl rfl
@[simp] theorem finB_nx (r : Env) (st : Sto) : finB (.nx r st) = .val .non st := Eq.trans rfl rfl
@[simp] theorem finB_exc (e : Ex) (r : Env) (st : Sto) : finB (.exc e r st) = .exc e st := Eq.trans rfl rfl
@[simp] theorem ofOpt_some {α : Type} (a : α) (st : Sto) : ofOpt (some a) st = .val a st := Eq.trans rfl rfl
@[simp] theorem big_ap (n : Nat) : big n = decide (n ≤ 1000000) := Eq.trans rfl rfl
@[simp] theorem isT_non_non : isT .non .non = true := Eq.trans rfl rfl
@[simp] theorem isT_non_bl : isT .non .bl = false := Eq.trans rfl rfl
@[simp] theorem isT_non_int : isT .non .int = false := Eq.trans rfl rfl
@[simp] theorem isT_non_str : isT .non .str = false := Eq.trans rfl rfl
@[simp] theorem isT_non_tup : isT .non .tup = false := Eq.trans rfl rfl
@[simp] theorem isT_non_lst : isT .non .lst = false := Eq.trans rfl rfl
@[simp] theorem isT_non_dic : isT .non .dic = false := Eq.trans rfl rfl
@[simp] theorem isT_bl_non : isT .bl .non = false := Eq.trans rfl rfl
@[simp] theorem isT_bl_bl : isT .bl .bl = true := Eq.trans rfl rfl
@[simp] theorem isT_bl_int : isT .bl .int = true := Eq.trans rfl rfl
@[simp] theorem isT_bl_str : isT .bl .str = false := Eq.trans rfl rfl
@[simp] theorem isT_bl_tup : isT .bl .tup = false := Eq.trans rfl rfl
@[simp] theorem isT_bl_lst : isT .bl .lst = false := Eq.trans rfl rfl
@[simp] theorem isT_bl_dic : isT .bl .dic = false := Eq.trans rfl rfl
@[simp] theorem isT_int_non : isT .int .non = false := Eq.trans rfl rfl
@[simp] theorem isT_int_bl : isT .int .bl = false := Eq.trans rfl rfl
@[simp] theorem isT_int_int : isT .int .int = true := Eq.trans rfl rfl
@[simp] theorem isT_int_str : isT .int .str = false := Eq.trans rfl rfl
@[simp] theorem isT_int_tup : isT .int .tup = false := Eq.trans rfl rfl
@[simp] theorem isT_int_lst : isT .int .lst = false := Eq.trans rfl rfl
@[simp] theorem isT_int_dic : isT .int .dic = false := Eq.trans rfl rfl
@[simp] theorem isT_str_non : isT .str .non = false := Eq.trans rfl rfl
@[simp] theorem isT_str_bl : isT .str .bl = false := Eq.trans rfl rfl
@[simp] theorem isT_str_int : isT .str .int = false := Eq.trans rfl rfl
@[simp] theorem isT_str_str : isT .str .str = true := Eq.trans rfl rfl
@[simp] theorem isT_str_tup : isT .str .tup = false := Eq.trans rfl rfl
@[simp] theorem isT_str_lst : isT .str .lst = false := Eq.trans rfl rfl
@[simp] theorem isT_str_dic : isT .str .dic = false := Eq.trans rfl rfl
@[simp] theorem isT_tup_non : isT .tup .non = false := Eq.trans rfl rfl
@[simp] theorem isT_tup_bl : isT .tup .bl = false := Eq.trans rfl rfl
@[simp] theorem isT_tup_int : isT .tup .int = false := Eq.trans rfl rfl
@[simp] theorem isT_tup_str : isT .tup .str = false := Eq.trans rfl rfl
@[simp] theorem isT_tup_tup : isT .tup .tup = true := Eq.trans rfl rfl
@[simp] theorem isT_tup_lst : isT .tup .lst = false := Eq.trans rfl rfl
@[simp] theorem isT_tup_dic : isT .tup .dic = false := Eq.trans rfl rfl
@[simp] theorem isT_lst_non : isT .lst .non = false := Eq.trans rfl rfl
@[simp] theorem isT_lst_bl : isT .lst .bl = false := Eq.trans rfl rfl
@[simp] theorem isT_lst_int : isT .lst .int = false := Eq.trans rfl rfl
@[simp] theorem isT_lst_str : isT .lst .str = false := Eq.trans rfl rfl
@[simp] theorem isT_lst_tup : isT .lst .tup = false := Eq.trans rfl rfl
@[simp] theorem isT_lst_lst : isT .lst .lst = true := Eq.trans rfl rfl
@[simp] theorem isT_lst_dic : isT .lst .dic = false := Eq.trans rfl rfl
@[simp] theorem isT_dic_non : isT .dic .non = false := Eq.trans rfl rfl
@[simp] theorem isT_dic_bl : isT .dic .bl = false := Eq.trans rfl rfl
@[simp] theorem isT_dic_int : isT .dic .int = false := Eq.trans rfl rfl
@[simp] theorem isT_dic_str : isT .dic .str = false := Eq.trans rfl rfl
@[simp] theorem isT_dic_tup : isT .dic .tup = false := Eq.trans rfl rfl
@[simp] theorem isT_dic_lst : isT .dic .lst = false := Eq.trans rfl rfl
@[simp] theorem isT_dic_dic : isT .dic .dic = true := Eq.trans rfl rfl
@[simp] theorem toB_bl (b : Bool) : toB (.bl b) = some b := Eq.trans rfl rfl

@[simp] theorem var_ap (i : Nat) (r : Env) (st : Sto) : var i r st = ofOpt (r[i]?.join) st := Eq.trans rfl rfl
@[simp] theorem con_ap (d : D) (r : Env) (st : Sto) : con d r st = .val d st := Eq.trans rfl rfl
def un1 (g : Sto → D → Option D) (o : O D) : O D :=
  match o with
  | .val x st1 => ofOpt (g st1 x) st1
  | .exc e st1 => .exc e st1
  | _ => .bad
@[simp] theorem un1_0 (g : Sto → D → Option D) (x : D) (st1 : Sto) : un1 g (.val x st1) = ofOpt (g st1 x) st1 := Eq.trans rfl rfl
@[simp] theorem un1_1 (g : Sto → D → Option D) (e : Ex) (st1 : Sto) : un1 g (.exc e st1) = .exc e st1 := Eq.trans rfl rfl
@[simp] theorem un_ap (g : Sto → D → Option D) (f : DX D) (r : Env) (st : Sto) : un g f r st = un1 g (f r st) := by unfold un un1 O.bind; cases f r st <;> rfl
def bin2 (g : Sto → D → D → Option D) (y : D) (o : O D) : O D :=
  match o with
  | .val x st1 => ofOpt (g st1 y x) st1
  | .exc e st1 => .exc e st1
  | _ => .bad
@[simp] theorem bin2_0 (g : Sto → D → D → Option D) (y : D) (x : D) (st1 : Sto) : bin2 g y (.val x st1) = ofOpt (g st1 y x) st1 := Eq.trans rfl rfl
@[simp] theorem bin2_1 (g : Sto → D → D → Option D) (y : D) (e : Ex) (st1 : Sto) : bin2 g y (.exc e st1) = .exc e st1 := Eq.trans rfl rfl
def bin1 (g : Sto → D → D → Option D) (fb : DX D) (r : Env) (o : O D) : O D :=
  match o with
  | .val x st1 => bin2 g x (fb r st1)
  | .exc e st1 => .exc e st1
  | _ => .bad
@[simp] theorem bin1_0 (g : Sto → D → D → Option D) (fb : DX D) (r : Env) (x : D) (st1 : Sto) : bin1 g fb r (.val x st1) = bin2 g x (fb r st1) := Eq.trans rfl rfl
@[simp] theorem bin1_1 (g : Sto → D → D → Option D) (fb : DX D) (r : Env) (e : Ex) (st1 : Sto) : bin1 g fb r (.exc e st1) = .exc e st1 := Eq.trans rfl rfl
@[simp] theorem bin_ap (g : Sto → D → D → Option D) (fa fb : DX D) (r : Env) (st : Sto) : bin g fa fb r st = bin1 g fb r (fa r st) := by
  unfold bin bin1 O.bind; cases fa r st with
  | val x st1 => dsimp only; show _ = bin2 g x (fb r st1); unfold bin2; cases fb r st1 <;> rfl
  | _ => rfl
def asT1  (o : O D) : O Bool :=
  match o with
  | .val (.bl b) st1 => .val b st1
  | .exc e st1 => .exc e st1
  | _ => .bad
@[simp] theorem asT1_0  (b : Bool) (st1 : Sto) : asT1  (.val (.bl b) st1) = .val b st1 := Eq.trans rfl rfl
@[simp] theorem asT1_1  (e : Ex) (st1 : Sto) : asT1  (.exc e st1) = .exc e st1 := Eq.trans rfl rfl
@[simp] theorem asT_ap (f : DX D) (r : Env) (st : Sto) : asT f r st = asT1 (f r st) := by
  unfold asT asT1 O.bind; cases f r st with
  | val x st1 => cases x <;> rfl
  | _ => rfl
def andT1 (b : DX Bool) (r : Env) (o : O Bool) : O Bool :=
  match o with
  | .val true st1 => b r st1
  | .val false st1 => .val false st1
  | .exc e st1 => .exc e st1
  | _ => .bad
@[simp] theorem andT1_0 (b : DX Bool) (r : Env) (st1 : Sto) : andT1 b r (.val true st1) = b r st1 := Eq.trans rfl rfl
@[simp] theorem andT1_1 (b : DX Bool) (r : Env) (st1 : Sto) : andT1 b r (.val false st1) = .val false st1 := Eq.trans rfl rfl
@[simp] theorem andT1_2 (b : DX Bool) (r : Env) (e : Ex) (st1 : Sto) : andT1 b r (.exc e st1) = .exc e st1 := Eq.trans rfl rfl
@[simp] theorem andT_ap (a b : DX Bool) (r : Env) (st : Sto) : andT a b r st = andT1 b r (a r st) := by
  unfold andT andT1 O.bind; cases a r st with
  | val x st1 => cases x <;> rfl
  | _ => rfl
def orT1 (b : DX Bool) (r : Env) (o : O Bool) : O Bool :=
  match o with
  | .val true st1 => .val true st1
  | .val false st1 => b r st1
  | .exc e st1 => .exc e st1
  | _ => .bad
@[simp] theorem orT1_0 (b : DX Bool) (r : Env) (st1 : Sto) : orT1 b r (.val true st1) = .val true st1 := Eq.trans rfl rfl
@[simp] theorem orT1_1 (b : DX Bool) (r : Env) (st1 : Sto) : orT1 b r (.val false st1) = b r st1 := Eq.trans rfl rfl
@[simp] theorem orT1_2 (b : DX Bool) (r : Env) (e : Ex) (st1 : Sto) : orT1 b r (.exc e st1) = .exc e st1 := Eq.trans rfl rfl
@[simp] theorem orT_ap (a b : DX Bool) (r : Env) (st : Sto) : orT a b r st = orT1 b r (a r st) := by
  unfold orT orT1 O.bind; cases a r st with
  | val x st1 => cases x <;> rfl
  | _ => rfl
def notT1  (o : O Bool) : O Bool :=
  match o with
  | .val k st1 => .val (!k) st1
  | .exc e st1 => .exc e st1
  | _ => .bad
@[simp] theorem notT1_0  (k : Bool) (st1 : Sto) : notT1  (.val k st1) = .val (!k) st1 := Eq.trans rfl rfl
@[simp] theorem notT1_1  (e : Ex) (st1 : Sto) : notT1  (.exc e st1) = .exc e st1 := Eq.trans rfl rfl
@[simp] theorem notT_ap (a : DX Bool) (r : Env) (st : Sto) : notT a r st = notT1 (a r st) := by unfold notT notT1 O.bind; cases a r st <;> rfl
def andV1 (b : DX D) (r : Env) (o : O D) : O D :=
  match o with
  | .val (.bl true) st1 => b r st1
  | .val (.bl false) st1 => .val (.bl false) st1
  | .exc e st1 => .exc e st1
  | _ => .bad
@[simp] theorem andV1_0 (b : DX D) (r : Env) (st1 : Sto) : andV1 b r (.val (.bl true) st1) = b r st1 := Eq.trans rfl rfl
@[simp] theorem andV1_1 (b : DX D) (r : Env) (st1 : Sto) : andV1 b r (.val (.bl false) st1) = .val (.bl false) st1 := Eq.trans rfl rfl
@[simp] theorem andV1_2 (b : DX D) (r : Env) (e : Ex) (st1 : Sto) : andV1 b r (.exc e st1) = .exc e st1 := Eq.trans rfl rfl
@[simp] theorem andV_ap (a b : DX D) (r : Env) (st : Sto) : andV a b r st = andV1 b r (a r st) := by
  unfold andV andV1 O.bind; cases a r st with
  | val x st1 =>
    cases x with
    | bl k => cases k <;> rfl
    | _ => rfl
  | _ => rfl
def orV1 (b : DX D) (r : Env) (o : O D) : O D :=
  match o with
  | .val (.bl true) st1 => .val (.bl true) st1
  | .val (.bl false) st1 => b r st1
  | .exc e st1 => .exc e st1
  | _ => .bad
@[simp] theorem orV1_0 (b : DX D) (r : Env) (st1 : Sto) : orV1 b r (.val (.bl true) st1) = .val (.bl true) st1 := Eq.trans rfl rfl
@[simp] theorem orV1_1 (b : DX D) (r : Env) (st1 : Sto) : orV1 b r (.val (.bl false) st1) = b r st1 := Eq.trans rfl rfl
@[simp] theorem orV1_2 (b : DX D) (r : Env) (e : Ex) (st1 : Sto) : orV1 b r (.exc e st1) = .exc e st1 := Eq.trans rfl rfl
@[simp] theorem orV_ap (a b : DX D) (r : Env) (st : Sto) : orV a b r st = orV1 b r (a r st) := by
  unfold orV orV1 O.bind; cases a r st with
  | val x st1 =>
    cases x with
    | bl k => cases k <;> rfl
    | _ => rfl
  | _ => rfl
def notV1  (o : O D) : O D :=
  match o with
  | .val (.bl b) st1 => .val (.bl (!b)) st1
  | .exc e st1 => .exc e st1
  | _ => .bad
@[simp] theorem notV1_0  (b : Bool) (st1 : Sto) : notV1  (.val (.bl b) st1) = .val (.bl (!b)) st1 := Eq.trans rfl rfl
@[simp] theorem notV1_1  (e : Ex) (st1 : Sto) : notV1  (.exc e st1) = .exc e st1 := Eq.trans rfl rfl
@[simp] theorem notV_ap (a : DX D) (r : Env) (st : Sto) : notV a r st = notV1 (a r st) := by
  unfold notV notV1 O.bind; cases a r st with
  | val x st1 =>
    cases x with
    | bl k => cases k <;> rfl
    | _ => rfl
  | _ => rfl
def ifE1 (a b : DX D) (r : Env) (o : O Bool) : O D :=
  match o with
  | .val true st1 => a r st1
  | .val false st1 => b r st1
  | .exc e st1 => .exc e st1
  | _ => .bad
@[simp] theorem ifE1_0 (a b : DX D) (r : Env) (st1 : Sto) : ifE1 a b r (.val true st1) = a r st1 := Eq.trans rfl rfl
@[simp] theorem ifE1_1 (a b : DX D) (r : Env) (st1 : Sto) : ifE1 a b r (.val false st1) = b r st1 := Eq.trans rfl rfl
@[simp] theorem ifE1_2 (a b : DX D) (r : Env) (e : Ex) (st1 : Sto) : ifE1 a b r (.exc e st1) = .exc e st1 := Eq.trans rfl rfl
@[simp] theorem ifE_ap (t : DX Bool) (a b : DX D) (r : Env) (st : Sto) : ifE t a b r st = ifE1 a b r (t r st) := by
  unfold ifE ifE1 O.bind; cases t r st with
  | val x st1 => cases x <;> rfl
  | _ => rfl
def chain5 (g : Sto → D → D → Option D) (y : D) (o : O D) : O D :=
  match o with
  | .val x st1 => ofOpt (g st1 y x) st1
  | .exc e st1 => .exc e st1
  | _ => .bad
@[simp] theorem chain5_0 (g : Sto → D → D → Option D) (y : D) (x : D) (st1 : Sto) : chain5 g y (.val x st1) = ofOpt (g st1 y x) st1 := Eq.trans rfl rfl
@[simp] theorem chain5_1 (g : Sto → D → D → Option D) (y : D) (e : Ex) (st1 : Sto) : chain5 g y (.exc e st1) = .exc e st1 := Eq.trans rfl rfl
def chain3 (g : Sto → D → D → Option D) (y : D) (fc : DX D) (r : Env) (st : Sto) (o : Option Bool) : O D :=
  match o with
  | some true => chain5 g y (fc r st)
  | some false => .val (.bl false) st
  | none => .bad
@[simp] theorem chain3_0 (g : Sto → D → D → Option D) (y : D) (fc : DX D) (r : Env) (st : Sto) : chain3 g y fc r st (some true) = chain5 g y (fc r st) := Eq.trans rfl rfl
@[simp] theorem chain3_1 (g : Sto → D → D → Option D) (y : D) (fc : DX D) (r : Env) (st : Sto) : chain3 g y fc r st (some false) = .val (.bl false) st := Eq.trans rfl rfl
def chain2 (g g' : Sto → D → D → Option D) (y : D) (fc : DX D) (r : Env) (o : O D) : O D :=
  match o with
  | .val x st1 => chain3 g' x fc r st1 ((g st1 y x).bind toB)
  | .exc e st1 => .exc e st1
  | _ => .bad
@[simp] theorem chain2_0 (g g' : Sto → D → D → Option D) (y : D) (fc : DX D) (r : Env) (x : D) (st1 : Sto) : chain2 g g' y fc r (.val x st1) = chain3 g' x fc r st1 ((g st1 y x).bind toB) := Eq.trans rfl rfl
@[simp] theorem chain2_1 (g g' : Sto → D → D → Option D) (y : D) (fc : DX D) (r : Env) (e : Ex) (st1 : Sto) : chain2 g g' y fc r (.exc e st1) = .exc e st1 := Eq.trans rfl rfl
def chain1 (g g' : Sto → D → D → Option D) (fb fc : DX D) (r : Env) (o : O D) : O D :=
  match o with
  | .val x st1 => chain2 g g' x fc r (fb r st1)
  | .exc e st1 => .exc e st1
  | _ => .bad
@[simp] theorem chain1_0 (g g' : Sto → D → D → Option D) (fb fc : DX D) (r : Env) (x : D) (st1 : Sto) : chain1 g g' fb fc r (.val x st1) = chain2 g g' x fc r (fb r st1) := Eq.trans rfl rfl
@[simp] theorem chain1_1 (g g' : Sto → D → D → Option D) (fb fc : DX D) (r : Env) (e : Ex) (st1 : Sto) : chain1 g g' fb fc r (.exc e st1) = .exc e st1 := Eq.trans rfl rfl
@[simp] theorem chain_ap (g g' : Sto → D → D → Option D) (fa fb fc : DX D) (r : Env) (st : Sto) : chain g g' fa fb fc r st = chain1 g g' fb fc r (fa r st) := by
  unfold chain chain1 O.bind
  cases fa r st with
  | val x st1 =>
    dsimp only
    show _ = chain2 g g' x fc r (fb r st1)
    unfold chain2
    cases fb r st1 with
    | val y st2 =>
      dsimp only
      show _ = chain3 g' y fc r st2 ((g st2 x y).bind toB)
      skip
      cases (g st2 x y).bind toB with
      | none => rfl
      | some k =>
        cases k with
        | true =>
          skip
          show _ = chain5 g' y (fc r st2)
          unfold chain5
          simp only [ofOpt_some, if_true]
          cases fc r st2 <;> rfl
        | false => rfl
    | _ => rfl
  | _ => rfl
@[simp] theorem nilA_ap  (r : Env) (st : Sto) : nilA  r st = .val [] st := Eq.trans rfl rfl
def consA2 (y : D) (o : O (List D)) : O (List D) :=
  match o with
  | .val ds st1 => .val (y :: ds) st1
  | .exc e st1 => .exc e st1
  | _ => .bad
@[simp] theorem consA2_0 (y : D) (ds : List D) (st1 : Sto) : consA2 y (.val ds st1) = .val (y :: ds) st1 := Eq.trans rfl rfl
@[simp] theorem consA2_1 (y : D) (e : Ex) (st1 : Sto) : consA2 y (.exc e st1) = .exc e st1 := Eq.trans rfl rfl
def consA1 (g : DX (List D)) (r : Env) (o : O D) : O (List D) :=
  match o with
  | .val x st1 => consA2 x (g r st1)
  | .exc e st1 => .exc e st1
  | _ => .bad
@[simp] theorem consA1_0 (g : DX (List D)) (r : Env) (x : D) (st1 : Sto) : consA1 g r (.val x st1) = consA2 x (g r st1) := Eq.trans rfl rfl
@[simp] theorem consA1_1 (g : DX (List D)) (r : Env) (e : Ex) (st1 : Sto) : consA1 g r (.exc e st1) = .exc e st1 := Eq.trans rfl rfl
@[simp] theorem consA_ap (f : DX D) (g : DX (List D)) (r : Env) (st : Sto) : consA f g r st = consA1 g r (f r st) := by
  unfold consA consA1 O.bind; cases f r st with
  | val x st1 => dsimp only; show _ = consA2 x (g r st1); unfold consA2; cases g r st1 <;> rfl
  | _ => rfl
def tupE1  (o : O (List D)) : O D :=
  match o with
  | .val ds st1 => if big ds.length = true then .val (.tup ds) st1 else .bad
  | .exc e st1 => .exc e st1
  | _ => .bad
@[simp] theorem tupE1_0  (ds : List D) (st1 : Sto) : tupE1  (.val ds st1) = if big ds.length = true then .val (.tup ds) st1 else .bad := Eq.trans rfl rfl
@[simp] theorem tupE1_1  (e : Ex) (st1 : Sto) : tupE1  (.exc e st1) = .exc e st1 := Eq.trans rfl rfl
@[simp] theorem tupE_ap (f : DX (List D)) (r : Env) (st : Sto) : tupE f r st = tupE1 (f r st) := by unfold tupE tupE1 O.bind; cases f r st <;> rfl
def lstE1  (o : O (List D)) : O D :=
  match o with
  | .val ds st1 => if big ds.length = true then .val (.lst ds) st1 else .bad
  | .exc e st1 => .exc e st1
  | _ => .bad
@[simp] theorem lstE1_0  (ds : List D) (st1 : Sto) : lstE1  (.val ds st1) = if big ds.length = true then .val (.lst ds) st1 else .bad := Eq.trans rfl rfl
@[simp] theorem lstE1_1  (e : Ex) (st1 : Sto) : lstE1  (.exc e st1) = .exc e st1 := Eq.trans rfl rfl
@[simp] theorem lstE_ap (f : DX (List D)) (r : Env) (st : Sto) : lstE f r st = lstE1 (f r st) := by unfold lstE lstE1 O.bind; cases f r st <;> rfl
def lstS1  (o : O (List D)) : O D :=
  match o with
  | .val ds st1 => if big ds.length = true then .val (.ref st1.length) (st1 ++ [.lst ds]) else .bad
  | .exc e st1 => .exc e st1
  | _ => .bad
@[simp] theorem lstS1_0  (ds : List D) (st1 : Sto) : lstS1  (.val ds st1) = if big ds.length = true then .val (.ref st1.length) (st1 ++ [.lst ds]) else .bad := Eq.trans rfl rfl
@[simp] theorem lstS1_1  (e : Ex) (st1 : Sto) : lstS1  (.exc e st1) = .exc e st1 := Eq.trans rfl rfl
@[simp] theorem lstS_ap (f : DX (List D)) (r : Env) (st : Sto) : lstS f r st = lstS1 (f r st) := by unfold lstS lstS1 O.bind; cases f r st <;> rfl
@[simp] theorem empE_ap  (r : Env) (st : Sto) : empE  r st = .val .emp st := Eq.trans rfl rfl
def callV1 (g : Sto → List D → Option D) (o : O (List D)) : O D :=
  match o with
  | .val ds st1 => ofOpt (g st1 ds) st1
  | .exc e st1 => .exc e st1
  | _ => .bad
@[simp] theorem callV1_0 (g : Sto → List D → Option D) (ds : List D) (st1 : Sto) : callV1 g (.val ds st1) = ofOpt (g st1 ds) st1 := Eq.trans rfl rfl
@[simp] theorem callV1_1 (g : Sto → List D → Option D) (e : Ex) (st1 : Sto) : callV1 g (.exc e st1) = .exc e st1 := Eq.trans rfl rfl
@[simp] theorem callV_ap (g : Sto → List D → Option D) (f : DX (List D)) (r : Env) (st : Sto) : callV g f r st = callV1 g (f r st) := by unfold callV callV1 O.bind; cases f r st <;> rfl
def callE1 (g : List D → Sto → O D) (o : O (List D)) : O D :=
  match o with
  | .val ds st1 => g ds st1
  | .exc e st1 => .exc e st1
  | _ => .bad
@[simp] theorem callE1_0 (g : List D → Sto → O D) (ds : List D) (st1 : Sto) : callE1 g (.val ds st1) = g ds st1 := Eq.trans rfl rfl
@[simp] theorem callE1_1 (g : List D → Sto → O D) (e : Ex) (st1 : Sto) : callE1 g (.exc e st1) = .exc e st1 := Eq.trans rfl rfl
@[simp] theorem callE_ap (g : List D → Sto → O D) (f : DX (List D)) (r : Env) (st : Sto) : callE g f r st = callE1 g (f r st) := by unfold callE callE1 O.bind; cases f r st <;> rfl
@[simp] theorem arity_ap (n : Nat) (den : List D → Sto → O D) (xs : List D) (st : Sto) : arity n den xs st = if xs.length = n then den xs st else .bad := Eq.trans rfl rfl
def meth3 (o : Option (D × Sto)) : O D :=
  match o with
  | some (d, st3) => .val d st3
  | none => .bad
@[simp] theorem meth3_0 (d : D) (st3 : Sto) : meth3 (some (d, st3)) = .val d st3 := Eq.trans rfl rfl
def meth2 (g : Sto → D → List D → Option (D × Sto)) (y : D) (o : O (List D)) : O D :=
  match o with
  | .val ds st1 => meth3 (g st1 y ds)
  | .exc e st1 => .exc e st1
  | _ => .bad
@[simp] theorem meth2_0 (g : Sto → D → List D → Option (D × Sto)) (y : D) (ds : List D) (st1 : Sto) : meth2 g y (.val ds st1) = meth3 (g st1 y ds) := Eq.trans rfl rfl
@[simp] theorem meth2_1 (g : Sto → D → List D → Option (D × Sto)) (y : D) (e : Ex) (st1 : Sto) : meth2 g y (.exc e st1) = .exc e st1 := Eq.trans rfl rfl
def meth1 (chk : Sto → D → Bool) (g : Sto → D → List D → Option (D × Sto)) (f : DX (List D)) (r : Env) (o : O D) : O D :=
  match o with
  | .val x st1 => if chk st1 x = true then meth2 g x (f r st1) else .bad
  | .exc e st1 => .exc e st1
  | _ => .bad
@[simp] theorem meth1_0 (chk : Sto → D → Bool) (g : Sto → D → List D → Option (D × Sto)) (f : DX (List D)) (r : Env) (x : D) (st1 : Sto) : meth1 chk g f r (.val x st1) = if chk st1 x = true then meth2 g x (f r st1) else .bad := Eq.trans rfl rfl
@[simp] theorem meth1_1 (chk : Sto → D → Bool) (g : Sto → D → List D → Option (D × Sto)) (f : DX (List D)) (r : Env) (e : Ex) (st1 : Sto) : meth1 chk g f r (.exc e st1) = .exc e st1 := Eq.trans rfl rfl
@[simp] theorem methE_ap (chk : Sto → D → Bool) (g : Sto → D → List D → Option (D × Sto)) (fo : DX D) (f : DX (List D)) (r : Env) (st : Sto) : methE chk g fo f r st = meth1 chk g f r (fo r st) := by
  unfold methE meth1 O.bind
  cases fo r st with
  | val x st1 =>
    dsimp only
    show (if chk st1 x = true then _ else _) = if chk st1 x = true then meth2 g x (f r st1) else .bad
    by_cases c : chk st1 x = true
    · simp only [c, if_true]
      unfold meth2
      cases f r st1 with
      | val ds st2 =>
        dsimp only
        show _ = meth3 (g st2 x ds)
        unfold meth3
        skip
        cases g st2 x ds with
        | none => rfl
        | some p => rfl
      | _ => rfl
    · simp only [c]; rfl
  | _ => rfl
def is2 (qs : List Ty) (st1 : Sto) (o : Option Ty) : O D :=
  match o with
  | some t => .val (.bl (qs.any (isT t))) st1
  | none => .bad
@[simp] theorem is2_0 (qs : List Ty) (st1 : Sto) (t : Ty) : is2 qs st1 (some t) = .val (.bl (qs.any (isT t))) st1 := Eq.trans rfl rfl
def is1 (qs : List Ty) (o : O D) : O D :=
  match o with
  | .val x st1 => is2 qs st1 (tyD st1 x)
  | .exc e st1 => .exc e st1
  | _ => .bad
@[simp] theorem is1_0 (qs : List Ty) (x : D) (st1 : Sto) : is1 qs (.val x st1) = is2 qs st1 (tyD st1 x) := Eq.trans rfl rfl
@[simp] theorem is1_1 (qs : List Ty) (e : Ex) (st1 : Sto) : is1 qs (.exc e st1) = .exc e st1 := Eq.trans rfl rfl
@[simp] theorem isE_ap (qs : List Ty) (f : DX D) (r : Env) (st : Sto) : isE qs f r st = is1 qs (f r st) := by
  unfold isE un is1 O.bind
  cases f r st with
  | val x st1 => dsimp only; unfold is2; cases tyD st1 x <;> rfl
  | _ => rfl
@[simp] theorem ty_non (st : Sto)  : tyD st (.non) = some .non := Eq.trans rfl rfl
@[simp] theorem ty_bl (st : Sto) (b : Bool) : tyD st (.bl b) = some .bl := Eq.trans rfl rfl
@[simp] theorem ty_int (st : Sto) (i : Int) : tyD st (.int i) = some .int := Eq.trans rfl rfl
@[simp] theorem ty_str (st : Sto) (s : Str) : tyD st (.str s) = some .str := Eq.trans rfl rfl
@[simp] theorem ty_tup (st : Sto) (xs : List D) : tyD st (.tup xs) = some .tup := Eq.trans rfl rfl
@[simp] theorem ty_lst (st : Sto) (xs : List D) : tyD st (.lst xs) = some .lst := Eq.trans rfl rfl
@[simp] theorem ty_scr (st : Sto) (ns : List Int) : tyD st (.scr ns) = some .lst := Eq.trans rfl rfl
@[simp] theorem ty_emp (st : Sto)  : tyD st (.emp) = some .dic := Eq.trans rfl rfl
@[simp] theorem noB_ap  (r : Env) (st : Sto) : noB  r st = .val none st := Eq.trans rfl rfl
def intB1  (o : O D) : O (Option Int) :=
  match o with
  | .val (.int i) st1 => .val (some i) st1
  | .exc e st1 => .exc e st1
  | _ => .bad
@[simp] theorem intB1_0  (i : Int) (st1 : Sto) : intB1  (.val (.int i) st1) = .val (some i) st1 := Eq.trans rfl rfl
@[simp] theorem intB1_1  (e : Ex) (st1 : Sto) : intB1  (.exc e st1) = .exc e st1 := Eq.trans rfl rfl
@[simp] theorem intB_ap (f : DX D) (r : Env) (st : Sto) : intB f r st = intB1 (f r st) := by
  unfold intB intB1 O.bind; cases f r st with
  | val x st1 => cases x <;> rfl
  | _ => rfl
def sl3 (x : D) (l : Option Int) (o : O (Option Int)) : O D :=
  match o with
  | .val i st1 => ofOpt (cutD st1 x l i) st1
  | .exc e st1 => .exc e st1
  | _ => .bad
@[simp] theorem sl3_0 (x : D) (l : Option Int) (i : Option Int) (st1 : Sto) : sl3 x l (.val i st1) = ofOpt (cutD st1 x l i) st1 := Eq.trans rfl rfl
@[simp] theorem sl3_1 (x : D) (l : Option Int) (e : Ex) (st1 : Sto) : sl3 x l (.exc e st1) = .exc e st1 := Eq.trans rfl rfl
def sl2 (x : D) (fh : DX (Option Int)) (r : Env) (o : O (Option Int)) : O D :=
  match o with
  | .val i st1 => sl3 x i (fh r st1)
  | .exc e st1 => .exc e st1
  | _ => .bad
@[simp] theorem sl2_0 (x : D) (fh : DX (Option Int)) (r : Env) (i : Option Int) (st1 : Sto) : sl2 x fh r (.val i st1) = sl3 x i (fh r st1) := Eq.trans rfl rfl
@[simp] theorem sl2_1 (x : D) (fh : DX (Option Int)) (r : Env) (e : Ex) (st1 : Sto) : sl2 x fh r (.exc e st1) = .exc e st1 := Eq.trans rfl rfl
def sl1 (fl fh : DX (Option Int)) (r : Env) (o : O D) : O D :=
  match o with
  | .val x st1 => sl2 x fh r (fl r st1)
  | .exc e st1 => .exc e st1
  | _ => .bad
@[simp] theorem sl1_0 (fl fh : DX (Option Int)) (r : Env) (x : D) (st1 : Sto) : sl1 fl fh r (.val x st1) = sl2 x fh r (fl r st1) := Eq.trans rfl rfl
@[simp] theorem sl1_1 (fl fh : DX (Option Int)) (r : Env) (e : Ex) (st1 : Sto) : sl1 fl fh r (.exc e st1) = .exc e st1 := Eq.trans rfl rfl
@[simp] theorem sliceE_ap (fo : DX D) (fl fh : DX (Option Int)) (r : Env) (st : Sto) : sliceE fo fl fh r st = sl1 fl fh r (fo r st) := by
  unfold sliceE sl1 O.bind
  cases fo r st with
  | val x st1 =>
    dsimp only
    show _ = sl2 x fh r (fl r st1)
    unfold sl2
    cases fl r st1 with
    | val l st2 =>
      dsimp only
      show _ = sl3 x l (fh r st2)
      unfold sl3
      cases fh r st2 <;> rfl
    | _ => rfl
  | _ => rfl
@[simp] theorem nextS_ap  (r : Env) (st : Sto) : nextS  r st = .nx r st := Eq.trans rfl rfl
def seq1 (g : DS) (o : OS) : OS :=
  match o with
  | .nx r1 st1 => g r1 st1
  | .rt d st1 => .rt d st1
  | .bk r1 st1 => .bk r1 st1
  | .ct r1 st1 => .ct r1 st1
  | .exc x r1 st1 => .exc x r1 st1
  | _ => .bad
@[simp] theorem seq1_0 (g : DS) (r1 : Env) (st1 : Sto) : seq1 g (.nx r1 st1) = g r1 st1 := Eq.trans rfl rfl
@[simp] theorem seq1_1 (g : DS) (d : D) (st1 : Sto) : seq1 g (.rt d st1) = .rt d st1 := Eq.trans rfl rfl
@[simp] theorem seq1_2 (g : DS) (r1 : Env) (st1 : Sto) : seq1 g (.bk r1 st1) = .bk r1 st1 := Eq.trans rfl rfl
@[simp] theorem seq1_3 (g : DS) (r1 : Env) (st1 : Sto) : seq1 g (.ct r1 st1) = .ct r1 st1 := Eq.trans rfl rfl
@[simp] theorem seq1_4 (g : DS) (x : Ex) (r1 : Env) (st1 : Sto) : seq1 g (.exc x r1 st1) = .exc x r1 st1 := Eq.trans rfl rfl
@[simp] theorem seqS_ap (f g : DS) (r : Env) (st : Sto) : seqS f g r st = seq1 g (f r st) := by unfold seqS seq1; cases f r st <;> rfl
def ret1 (r : Env) (o : O D) : OS :=
  match o with
  | .val x st1 => .rt x st1
  | .exc e st1 => .exc e r st1
  | _ => .bad
@[simp] theorem ret1_0 (r : Env) (x : D) (st1 : Sto) : ret1 r (.val x st1) = .rt x st1 := Eq.trans rfl rfl
@[simp] theorem ret1_1 (r : Env) (e : Ex) (st1 : Sto) : ret1 r (.exc e st1) = .exc e r st1 := Eq.trans rfl rfl
@[simp] theorem retS_ap (f : DX D) (r : Env) (st : Sto) : retS f r st = ret1 r (f r st) := by unfold retS ret1 O.to; cases f r st <;> rfl
@[simp] theorem retN_ap  (r : Env) (st : Sto) : retN  r st = .rt .non st := Eq.trans rfl rfl
def expr1 (r : Env) (o : O D) : OS :=
  match o with
  | .val x st1 => .nx r st1
  | .exc e st1 => .exc e r st1
  | _ => .bad
@[simp] theorem expr1_0 (r : Env) (x : D) (st1 : Sto) : expr1 r (.val x st1) = .nx r st1 := Eq.trans rfl rfl
@[simp] theorem expr1_1 (r : Env) (e : Ex) (st1 : Sto) : expr1 r (.exc e st1) = .exc e r st1 := Eq.trans rfl rfl
@[simp] theorem exprS_ap (f : DX D) (r : Env) (st : Sto) : exprS f r st = expr1 r (f r st) := by unfold exprS expr1 O.to; cases f r st <;> rfl
def if1 (a b : DS) (r : Env) (o : O Bool) : OS :=
  match o with
  | .val true st1 => a r st1
  | .val false st1 => b r st1
  | .exc e st1 => .exc e r st1
  | _ => .bad
@[simp] theorem if1_0 (a b : DS) (r : Env) (st1 : Sto) : if1 a b r (.val true st1) = a r st1 := Eq.trans rfl rfl
@[simp] theorem if1_1 (a b : DS) (r : Env) (st1 : Sto) : if1 a b r (.val false st1) = b r st1 := Eq.trans rfl rfl
@[simp] theorem if1_2 (a b : DS) (r : Env) (e : Ex) (st1 : Sto) : if1 a b r (.exc e st1) = .exc e r st1 := Eq.trans rfl rfl
@[simp] theorem ifS_ap (t : DX Bool) (a b : DS) (r : Env) (st : Sto) : ifS t a b r st = if1 a b r (t r st) := by
  unfold ifS if1 O.to; cases t r st with
  | val x st1 => cases x <;> rfl
  | _ => rfl
def asg2 (r : Env) (o : O Env) : OS :=
  match o with
  | .val r2 st1 => .nx r2 st1
  | .exc e st1 => .exc e r st1
  | _ => .bad
@[simp] theorem asg2_0 (r : Env) (r2 : Env) (st1 : Sto) : asg2 r (.val r2 st1) = .nx r2 st1 := Eq.trans rfl rfl
@[simp] theorem asg2_1 (r : Env) (e : Ex) (st1 : Sto) : asg2 r (.exc e st1) = .exc e r st1 := Eq.trans rfl rfl
def asg1 (g : DG) (r : Env) (o : O D) : OS :=
  match o with
  | .val x st1 => asg2 r (g x r st1)
  | .exc e st1 => .exc e r st1
  | _ => .bad
@[simp] theorem asg1_0 (g : DG) (r : Env) (x : D) (st1 : Sto) : asg1 g r (.val x st1) = asg2 r (g x r st1) := Eq.trans rfl rfl
@[simp] theorem asg1_1 (g : DG) (r : Env) (e : Ex) (st1 : Sto) : asg1 g r (.exc e st1) = .exc e r st1 := Eq.trans rfl rfl
@[simp] theorem asgS_ap (f : DX D) (g : DG) (r : Env) (st : Sto) : asgS f g r st = asg1 g r (f r st) := by
  unfold asgS asg1 O.to; cases f r st with
  | val x st1 => dsimp only; show _ = asg2 r (g x r st1); unfold asg2; cases g x r st1 <;> rfl
  | _ => rfl
@[simp] theorem nameG_ap (i : Nat) (d : D) (r : Env) (st : Sto) : nameG i d r st = .val (r.set i (some d)) st := Eq.trans rfl rfl
def par1 (i j : Nat) (r : Env) (o : O (List D)) : OS :=
  match o with
  | .val [x, y] st1 => .nx ((r.set i (some x)).set j (some y)) st1
  | .exc e st1 => .exc e r st1
  | _ => .bad
@[simp] theorem par1_0 (i j : Nat) (r : Env) (x y : D) (st1 : Sto) : par1 i j r (.val [x, y] st1) = .nx ((r.set i (some x)).set j (some y)) st1 := Eq.trans rfl rfl
@[simp] theorem par1_1 (i j : Nat) (r : Env) (e : Ex) (st1 : Sto) : par1 i j r (.exc e st1) = .exc e r st1 := Eq.trans rfl rfl
@[simp] theorem parS_ap (i j : Nat) (f : DX (List D)) (r : Env) (st : Sto) : parS i j f r st = par1 i j r (f r st) := by
  unfold parS par1 O.to
  cases f r st with
  | val ds st1 =>
    match ds with
    | [] => rfl
    | [_] => rfl
    | [_, _] => rfl
    | _ :: _ :: _ :: _ => rfl
  | _ => rfl
@[simp] theorem breakS_ap  (r : Env) (st : Sto) : breakS  r st = .bk r st := Eq.trans rfl rfl
@[simp] theorem contS_ap  (r : Env) (st : Sto) : contS  r st = .ct r st := Eq.trans rfl rfl
def for1 (g : DG) (b : DS) (r : Env) (o : O (List D)) : OS :=
  match o with
  | .val ds st1 => loopS g b ds r st1
  | .exc e st1 => .exc e r st1
  | _ => .bad
@[simp] theorem for1_0 (g : DG) (b : DS) (r : Env) (ds : List D) (st1 : Sto) : for1 g b r (.val ds st1) = loopS g b ds r st1 := Eq.trans rfl rfl
@[simp] theorem for1_1 (g : DG) (b : DS) (r : Env) (e : Ex) (st1 : Sto) : for1 g b r (.exc e st1) = .exc e r st1 := Eq.trans rfl rfl
@[simp] theorem forS_ap (fi : DX (List D)) (g : DG) (b : DS) (r : Env) (st : Sto) : forS fi g b r st = for1 g b r (fi r st) := by unfold forS for1 O.to; cases fi r st <;> rfl
def raise1 (r : Env) (o : O Ex) : OS :=
  match o with
  | .val x st1 => .exc x r st1
  | .exc e st1 => .exc e r st1
  | _ => .bad
@[simp] theorem raise1_0 (r : Env) (x : Ex) (st1 : Sto) : raise1 r (.val x st1) = .exc x r st1 := Eq.trans rfl rfl
@[simp] theorem raise1_1 (r : Env) (e : Ex) (st1 : Sto) : raise1 r (.exc e st1) = .exc e r st1 := Eq.trans rfl rfl
@[simp] theorem raiseS_ap (g : DX Ex) (r : Env) (st : Sto) : raiseS g r st = raise1 r (g r st) := by unfold raiseS raise1 O.to; cases g r st <;> rfl
@[simp] theorem ex0_ap (c : Str) (r : Env) (st : Sto) : ex0 c r st = .val ⟨c, []⟩ st := Eq.trans rfl rfl
def exA1 (c : Str) (fs : List Str) (o : O (List D)) : O Ex :=
  match o with
  | .val ds st1 => if ds.length = fs.length then .val ⟨c, (fs.zip ds).reverse⟩ st1 else .bad
  | .exc e st1 => .exc e st1
  | _ => .bad
@[simp] theorem exA1_0 (c : Str) (fs : List Str) (ds : List D) (st1 : Sto) : exA1 c fs (.val ds st1) = if ds.length = fs.length then .val ⟨c, (fs.zip ds).reverse⟩ st1 else .bad := Eq.trans rfl rfl
@[simp] theorem exA1_1 (c : Str) (fs : List Str) (e : Ex) (st1 : Sto) : exA1 c fs (.exc e st1) = .exc e st1 := Eq.trans rfl rfl
@[simp] theorem exA_ap (c : Str) (fs : List Str) (f : DX (List D)) (r : Env) (st : Sto) : exA c fs f r st = exA1 c fs (f r st) := by unfold exA exA1 O.bind; cases f r st <;> rfl
def try1 (T : ExTab) (Qs : List CD) (hs : List Clause) (o : OS) : OS :=
  match o with
  | .nx r1 st1 => .nx r1 st1
  | .rt d st1 => .rt d st1
  | .bk r1 st1 => .bk r1 st1
  | .ct r1 st1 => .ct r1 st1
  | .exc x r1 st1 => hdsS T Qs x hs r1 st1
  | _ => .bad
@[simp] theorem try1_0 (T : ExTab) (Qs : List CD) (hs : List Clause) (r1 : Env) (st1 : Sto) : try1 T Qs hs (.nx r1 st1) = .nx r1 st1 := Eq.trans rfl rfl
@[simp] theorem try1_1 (T : ExTab) (Qs : List CD) (hs : List Clause) (d : D) (st1 : Sto) : try1 T Qs hs (.rt d st1) = .rt d st1 := Eq.trans rfl rfl
@[simp] theorem try1_2 (T : ExTab) (Qs : List CD) (hs : List Clause) (r1 : Env) (st1 : Sto) : try1 T Qs hs (.bk r1 st1) = .bk r1 st1 := Eq.trans rfl rfl
@[simp] theorem try1_3 (T : ExTab) (Qs : List CD) (hs : List Clause) (r1 : Env) (st1 : Sto) : try1 T Qs hs (.ct r1 st1) = .ct r1 st1 := Eq.trans rfl rfl
@[simp] theorem try1_4 (T : ExTab) (Qs : List CD) (hs : List Clause) (x : Ex) (r1 : Env) (st1 : Sto) : try1 T Qs hs (.exc x r1 st1) = hdsS T Qs x hs r1 st1 := Eq.trans rfl rfl
@[simp] theorem tryS_ap (T : ExTab) (Qs : List CD) (b : DS) (hs : List Clause) (r : Env) (st : Sto) : tryS T Qs b hs r st = try1 T Qs hs (b r st) := by unfold tryS try1; cases b r st <;> rfl
theorem tupG_ap (is : List Nat) (xs : List D) (r : Env) (st : Sto) : tupG is (.tup xs) r st = ofOpt (namesE is xs r) st := rfl
def lst1 (is : List Nat) (r : Env) (st : Sto) (o : Option (List D)) : O Env :=
  match o with
  | some ds => ofOpt (namesE is ds r) st
  | none => .bad
@[simp] theorem lst1_0 (is : List Nat) (r : Env) (st : Sto) (ds : List D) : lst1 is r st (some ds) = ofOpt (namesE is ds r) st := Eq.trans rfl rfl
@[simp] theorem tupG_ap' (is : List Nat) (xs : List D) (r : Env) (st : Sto) : tupG is (.tup xs) r st = ofOpt (namesE is xs r) st := Eq.trans rfl rfl
@[simp] theorem lstG_ap (is : List Nat) (d : D) (r : Env) (st : Sto) : lstG is d r st = lst1 is r st (listAt st d) := by unfold lstG lst1; cases listAt st d <;> rfl
@[simp] theorem namesE_nil (r : Env) : namesE [] [] r = some r := Eq.trans rfl rfl
@[simp] theorem namesE_cons (i : Nat) (is : List Nat) (d : D) (ds : List D) (r : Env) : namesE (i :: is) (d :: ds) r = namesE is ds (r.set i (some d)) := Eq.trans rfl rfl
def sub3 (r : Env) (o : Option Sto) : O Env :=
  match o with
  | some st3 => .val r st3
  | none => .bad
@[simp] theorem sub3_0 (r : Env) (st3 : Sto) : sub3 r (some st3) = .val r st3 := Eq.trans rfl rfl
def sub2 (d o1 : D) (r : Env) (o : O D) : O Env :=
  match o with
  | .val x st1 => sub3 r (setD st1 o1 x d)
  | .exc e st1 => .exc e st1
  | _ => .bad
@[simp] theorem sub2_0 (d o1 : D) (r : Env) (x : D) (st1 : Sto) : sub2 d o1 r (.val x st1) = sub3 r (setD st1 o1 x d) := Eq.trans rfl rfl
@[simp] theorem sub2_1 (d o1 : D) (r : Env) (e : Ex) (st1 : Sto) : sub2 d o1 r (.exc e st1) = .exc e st1 := Eq.trans rfl rfl
def sub1 (fi : DX D) (d : D) (r : Env) (o : O D) : O Env :=
  match o with
  | .val x st1 => sub2 d x r (fi r st1)
  | .exc e st1 => .exc e st1
  | _ => .bad
@[simp] theorem sub1_0 (fi : DX D) (d : D) (r : Env) (x : D) (st1 : Sto) : sub1 fi d r (.val x st1) = sub2 d x r (fi r st1) := Eq.trans rfl rfl
@[simp] theorem sub1_1 (fi : DX D) (d : D) (r : Env) (e : Ex) (st1 : Sto) : sub1 fi d r (.exc e st1) = .exc e st1 := Eq.trans rfl rfl
@[simp] theorem subG_ap (fo fi : DX D) (d : D) (r : Env) (st : Sto) : subG fo fi d r st = sub1 fi d r (fo r st) := by
  unfold subG sub1 O.bind
  cases fo r st with
  | val o st1 =>
    dsimp only
    show _ = sub2 d o r (fi r st1)
    unfold sub2
    cases fi r st1 with
    | val i st2 =>
      dsimp only
      show _ = sub3 r (setD st2 o i d)
      unfold sub3
      skip
      cases setD st2 o i d <;> rfl
    | _ => rfl
  | _ => rfl
def items1  (o : O D) : O (List D) :=
  match o with
  | .val x st1 => ofOpt (itemsOf x) st1
  | .exc e st1 => .exc e st1
  | _ => .bad
@[simp] theorem items1_0  (x : D) (st1 : Sto) : items1  (.val x st1) = ofOpt (itemsOf x) st1 := Eq.trans rfl rfl
@[simp] theorem items1_1  (e : Ex) (st1 : Sto) : items1  (.exc e st1) = .exc e st1 := Eq.trans rfl rfl
@[simp] theorem itemsI_ap (f : DX D) (r : Env) (st : Sto) : itemsI f r st = items1 (f r st) := by unfold itemsI items1 O.bind; cases f r st <;> rfl
@[simp] theorem items_tup (xs : List D) : itemsOf (.tup xs) = some xs := Eq.trans rfl rfl
@[simp] theorem items_lst (xs : List D) : itemsOf (.lst xs) = some xs := Eq.trans rfl rfl
@[simp] theorem items_scr (xs : List Int) : itemsOf (.scr xs) = some (xs.map .int) := Eq.trans rfl rfl
@[simp] theorem noEx_val {α : Type} (a : α) (st : Sto) : noEx (.val a st) = .val a st := Eq.trans rfl rfl
@[simp] theorem yesT_ap (r : Env) (st : Sto) : yesT r st = .val true st := Eq.trans rfl rfl
def lcE2  (o : O (List D)) : O D :=
  match o with
  | .val ds st1 => .val (.lst ds) st1
  | .exc e st1 => .exc e st1
  | _ => .bad
@[simp] theorem lcE2_0  (ds : List D) (st1 : Sto) : lcE2  (.val ds st1) = .val (.lst ds) st1 := Eq.trans rfl rfl
@[simp] theorem lcE2_1  (e : Ex) (st1 : Sto) : lcE2  (.exc e st1) = .exc e st1 := Eq.trans rfl rfl
def lcE1 (sl : D → Env → Option Env) (vs : List Nat) (ft : DX Bool) (fe : DX D) (r : Env) (o : O (List D)) : O D :=
  match o with
  | .val ds st1 => if big ds.length = true then lcE2 (lcL sl ft fe (wipeD r vs) ds [] st1) else .bad
  | .exc e st1 => .exc e st1
  | _ => .bad
@[simp] theorem lcE1_0 (sl : D → Env → Option Env) (vs : List Nat) (ft : DX Bool) (fe : DX D) (r : Env) (ds : List D) (st1 : Sto) : lcE1 sl vs ft fe r (.val ds st1) = if big ds.length = true then lcE2 (lcL sl ft fe (wipeD r vs) ds [] st1) else .bad := Eq.trans rfl rfl
@[simp] theorem lcE1_1 (sl : D → Env → Option Env) (vs : List Nat) (ft : DX Bool) (fe : DX D) (r : Env) (e : Ex) (st1 : Sto) : lcE1 sl vs ft fe r (.exc e st1) = .exc e st1 := Eq.trans rfl rfl
@[simp] theorem lcE_ap (fi : DX (List D)) (sl : D → Env → Option Env) (vs : List Nat) (ft : DX Bool) (fe : DX D) (r : Env) (st : Sto) : lcE fi sl vs ft fe r st = lcE1 sl vs ft fe r (fi r st) := by
  unfold lcE lcE1 O.bind
  cases fi r st with
  | val ds st1 =>
    dsimp only
    by_cases c : big ds.length = true
    · simp only [c, if_true]
      unfold lcE2
      cases lcL sl ft fe (wipeD r vs) ds [] st1 <;> rfl
    · simp only [c]; rfl
  | _ => rfl
def lcS2  (o : O (List D)) : O D :=
  match o with
  | .val ds st1 => .val (.ref st1.length) (st1 ++ [.lst ds])
  | .exc e st1 => .exc e st1
  | _ => .bad
@[simp] theorem lcS2_0  (ds : List D) (st1 : Sto) : lcS2  (.val ds st1) = .val (.ref st1.length) (st1 ++ [.lst ds]) := Eq.trans rfl rfl
@[simp] theorem lcS2_1  (e : Ex) (st1 : Sto) : lcS2  (.exc e st1) = .exc e st1 := Eq.trans rfl rfl
def lcS1 (sl : D → Env → Option Env) (vs : List Nat) (ft : DX Bool) (fe : DX D) (r : Env) (o : O (List D)) : O D :=
  match o with
  | .val ds st1 => if big ds.length = true then lcS2 (lcL sl ft fe (wipeD r vs) ds [] st1) else .bad
  | .exc e st1 => .exc e st1
  | _ => .bad
@[simp] theorem lcS1_0 (sl : D → Env → Option Env) (vs : List Nat) (ft : DX Bool) (fe : DX D) (r : Env) (ds : List D) (st1 : Sto) : lcS1 sl vs ft fe r (.val ds st1) = if big ds.length = true then lcS2 (lcL sl ft fe (wipeD r vs) ds [] st1) else .bad := Eq.trans rfl rfl
@[simp] theorem lcS1_1 (sl : D → Env → Option Env) (vs : List Nat) (ft : DX Bool) (fe : DX D) (r : Env) (e : Ex) (st1 : Sto) : lcS1 sl vs ft fe r (.exc e st1) = .exc e st1 := Eq.trans rfl rfl
@[simp] theorem lcS_ap (fi : DX (List D)) (sl : D → Env → Option Env) (vs : List Nat) (ft : DX Bool) (fe : DX D) (r : Env) (st : Sto) : lcS fi sl vs ft fe r st = lcS1 sl vs ft fe r (fi r st) := by
  unfold lcS lcS1 O.bind
  cases fi r st with
  | val ds st1 =>
    dsimp only
    by_cases c : big ds.length = true
    · simp only [c, if_true]
      unfold lcS2
      cases lcL sl ft fe (wipeD r vs) ds [] st1 <;> rfl
    · simp only [c]; rfl
  | _ => rfl
@[simp] theorem wipeD_nil (r : Env) : wipeD r [] = r := Eq.trans rfl rfl
@[simp] theorem wipeD_cons (r : Env) (v : Nat) (vs : List Nat) : wipeD r (v :: vs) = (wipeD r vs).set v none := Eq.trans rfl rfl
@[simp] theorem slot1_ap (i : Nat) (d : D) (r : Env) : slot1 i d r = some (r.set i (some d)) := Eq.trans rfl rfl
@[simp] theorem slot2_ap (i j : Nat) (x y : D) (r : Env) : slot2 i j (.tup [x, y]) r = some ((r.set i (some x)).set j (some y)) := Eq.trans rfl rfl
def rng1K (o : O (List D)) : O (List D) :=
  match o with
  | .val [.int n] st => ofOpt (rng1 n) st
  | .exc e st => .exc e st
  | _ => .bad
@[simp] theorem rng1K_0 (n : Int) (st : Sto) : rng1K (.val [.int n] st) = ofOpt (rng1 n) st := Eq.trans rfl rfl
@[simp] theorem rng1K_1 (e : Ex) (st : Sto) : rng1K (.exc e st) = .exc e st := Eq.trans rfl rfl
@[simp] theorem range1I_ap (f : DX (List D)) (r : Env) (st : Sto) : range1I f r st = rng1K (f r st) := by
  unfold range1I rng1K O.bind
  cases f r st with
  | val ds st1 =>
    dsimp only
    split <;> split <;> first | rfl | (rename_i h _ _ _ h2; cases h2; first | rfl | (exact absurd rfl (h _))) | simp_all
  | _ => rfl
def rng2K (o : O (List D)) : O (List D) :=
  match o with
  | .val [.int i, .int j] st => ofOpt (rng2 i j) st
  | .exc e st => .exc e st
  | _ => .bad
@[simp] theorem rng2K_0 (i j : Int) (st : Sto) : rng2K (.val [.int i, .int j] st) = ofOpt (rng2 i j) st := Eq.trans rfl rfl
@[simp] theorem rng2K_1 (e : Ex) (st : Sto) : rng2K (.exc e st) = .exc e st := Eq.trans rfl rfl
@[simp] theorem range2I_ap (f : DX (List D)) (r : Env) (st : Sto) : range2I f r st = rng2K (f r st) := by
  unfold range2I rng2K O.bind
  cases f r st with
  | val ds st1 =>
    dsimp only
    split <;> split <;> first | rfl | simp_all
  | _ => rfl
def enumK (o : O (List D)) : O (List D) :=
  match o with
  | .val [d] st => ofOpt ((itemsOf d).map (enumFrom 0)) st
  | .exc e st => .exc e st
  | _ => .bad
@[simp] theorem enumK_0 (d : D) (st : Sto) : enumK (.val [d] st) = ofOpt ((itemsOf d).map (enumFrom 0)) st := Eq.trans rfl rfl
@[simp] theorem enumI_ap (f : DX (List D)) (r : Env) (st : Sto) : enumI f r st = enumK (f r st) := by
  unfold enumI enumK O.bind
  cases f r st with
  | val ds st1 =>
    dsimp only
    split <;> split <;> first | rfl | simp_all
  | _ => rfl
def zipK (o : O (List D)) : O (List D) :=
  match o with
  | .val [x, y] st => ofOpt (zip2 x y) st
  | .exc e st => .exc e st
  | _ => .bad
@[simp] theorem zipK_0 (x y : D) (st : Sto) : zipK (.val [x, y] st) = ofOpt (zip2 x y) st := Eq.trans rfl rfl
@[simp] theorem zipI_ap (f : DX (List D)) (r : Env) (st : Sto) : zipI f r st = zipK (f r st) := by
  unfold zipI zipK O.bind
  cases f r st with
  | val ds st1 =>
    dsimp only
    split <;> split <;> first | rfl | simp_all
  | _ => rfl
/-! ### operations on known kinds -/
section
variable {st : Sto} {i j : Int}
@[simp] theorem add_int' : addD st (.int i) (.int j) = some (.int (i + j)) := Eq.trans rfl rfl
@[simp] theorem sub_int' : subD st (.int i) (.int j) = some (.int (i - j)) := Eq.trans rfl rfl
@[simp] theorem lt_int' : ltD st (.int i) (.int j) = some (.bl (decide (i < j))) := Eq.trans rfl rfl
@[simp] theorem le_int' : leD st (.int i) (.int j) = some (.bl (decide (i ≤ j))) := Eq.trans rfl rfl
@[simp] theorem gt_int' : gtD st (.int i) (.int j) = some (.bl (decide (j < i))) := Eq.trans rfl rfl
@[simp] theorem ge_int' : geD st (.int i) (.int j) = some (.bl (decide (j ≤ i))) := Eq.trans rfl rfl
@[simp] theorem neg_int' : negD st (.int i) = some (.int (-i)) := Eq.trans rfl rfl
@[simp] theorem mod_int' : modD st (.int i) (.int j) = if 0 < j then some (.int (i % j)) else none := by
  unfold modD i2 cMod; simp
theorem fdiv_int' : fdivD st (.int i) (.int j) = if 0 < j ∧ j.natAbs.log2 < 9000 then some (.int (i / j)) else none := by
  unfold fdivD i2 cDiv; simp
theorem fdiv_ok' (h : 0 < j) (h2 : j ≤ 1000000000000000000) : fdivD st (.int i) (.int j) = some (.int (i / j)) := by
  rw [fdiv_int', if_pos]
  have h3 := (Nat.log2_lt (n := j.natAbs) (by omega) (k := 64)).mpr (by omega)
  exact ⟨h, by omega⟩
theorem mul_int' (h : (-(2 ^ 64) < i ∧ i < 2 ^ 64) ∨ (-(2 ^ 64) < j ∧ j < 2 ^ 64)) : mulD st (.int i) (.int j) = some (.int (i * j)) := by
  have : cMul i j = true := by unfold cMul small64; simp only [Bool.or_eq_true, Bool.and_eq_true, decide_eq_true_eq]; exact h
  show (mulI st (.int i) (.int j)).or _ = _
  have e : mulI st (.int i) (.int j) = some (.int (i * j)) := by unfold mulI i2; simp only [this, if_true]
  rw [e]; rfl
@[simp] theorem mul_modL (z m j : Int) (h : 0 < m) (h2 : m ≤ 2 ^ 64) : mulD st (.int (z % m)) (.int j) = some (.int (z % m * j)) := by
  have a := Int.emod_nonneg z (Int.ne_of_gt h)
  have b := Int.emod_lt_of_pos z h
  exact mul_int' (.inl ⟨by omega, by omega⟩)
theorem mul_left' (h : -(2 ^ 64) < i) (h2 : i < 2 ^ 64) : mulD st (.int i) (.int j) = some (.int (i * j)) := mul_int' (.inl ⟨h, h2⟩)
theorem mul_right' (h : -(2 ^ 64) < j) (h2 : j < 2 ^ 64) : mulD st (.int i) (.int j) = some (.int (i * j)) := mul_int' (.inr ⟨h, h2⟩)
theorem pow_int' (h : 0 ≤ j ∧ j ≤ 1000000 ∧ i.natAbs < 2 ^ 64) : powD st (.int i) (.int j) = some (.int (i ^ j.toNat)) := by
  have : cPow i j = true := by unfold cPow; simp only [Bool.and_eq_true, decide_eq_true_eq]; exact ⟨⟨h.1, h.2.1⟩, h.2.2⟩
  unfold powD i2; simp only [this, if_true]
@[simp] theorem add_tup' (xs ys : List D) : addD st (.tup xs) (.tup ys) = if big (xs.length + ys.length) = true then some (.tup (xs ++ ys)) else none := by
  simp only [addD, addI, i2, addS, addT, addL, listAt, Option.none_or, Option.or_none]
@[simp] theorem add_lst' (xs ys : List D) : addD st (.lst xs) (.lst ys) = if big (xs.length + ys.length) = true then some (.lst (xs ++ ys)) else none := by
  simp only [addD, addI, i2, addS, addT, addL, listAt, Option.none_or, Option.or_none]
@[simp] theorem ix_tup' (xs : List D) : ixD st (.tup xs) (.int i) = atI xs i := Eq.trans rfl rfl
@[simp] theorem ix_lst' (xs : List D) : ixD st (.lst xs) (.int i) = atI xs i := Eq.trans rfl rfl
@[simp] theorem cut_tup' (xs : List D) (l h : Option Int) : cutD st (.tup xs) l h = some (.tup (cutL xs l h)) := Eq.trans rfl rfl
@[simp] theorem cut_lst' (xs : List D) (l h : Option Int) : cutD st (.lst xs) l h = some (.lst (cutL xs l h)) := Eq.trans rfl rfl
@[simp] theorem cut_scr' (ns : List Int) (l h : Option Int) : cutD st (.scr ns) l h = some (.lst (cutL (ns.map .int) l h)) := Eq.trans rfl rfl
@[simp] theorem len_tup' (xs : List D) : lenD st [.tup xs] = some (.int xs.length) := Eq.trans rfl rfl
@[simp] theorem len_lst' (xs : List D) : lenD st [.lst xs] = some (.int xs.length) := Eq.trans rfl rfl
@[simp] theorem len_scr' (xs : List Int) : lenD st [.scr xs] = some (.int xs.length) := by
  show some (D.int ((xs.map D.int).length : Nat)) = _
  rw [List.length_map]
@[simp] theorem abs_int' : absD st [.int i] = some (.int (if i < 0 then -i else i)) := Eq.trans rfl rfl
@[simp] theorem max2_int' : max2D st [.int i, .int j] = some (.int (if j > i then j else i)) := Eq.trans rfl rfl
@[simp] theorem min2_int' : min2D st [.int i, .int j] = some (.int (if j < i then j else i)) := Eq.trans rfl rfl
@[simp] theorem int_int' : intX st [.int i] = some (.int i) := Eq.trans rfl rfl
@[simp] theorem int_bl' (b : Bool) : intX st [.bl b] = some (.int (if b then 1 else 0)) := Eq.trans rfl rfl
@[simp] theorem tuple_lst' (xs : List D) : tupleD st [.lst xs] = some (.tup xs) := Eq.trans rfl rfl
@[simp] theorem tuple_tup' (xs : List D) : tupleD st [.tup xs] = some (.tup xs) := Eq.trans rfl rfl
@[simp] theorem isN' (x : D) : isN st x .non = some (.bl (nonB x)) := Eq.trans rfl rfl
@[simp] theorem notN' (x : D) : notN st x .non = some (.bl (!nonB x)) := Eq.trans rfl rfl
@[simp] theorem see_int' : D.see st (.int i) = .int i := Eq.trans rfl rfl
@[simp] theorem see_str' (s : Str) : D.see st (.str s) = .str s := Eq.trans rfl rfl
@[simp] theorem see_bl' (s : Bool) : D.see st (.bl s) = .bl s := Eq.trans rfl rfl
@[simp] theorem see_non' : D.see st .non = .non := Eq.trans rfl rfl
@[simp] theorem see_tup' (xs : List D) : D.see st (.tup xs) = .tup xs := Eq.trans rfl rfl
@[simp] theorem see_lst' (xs : List D) : D.see st (.lst xs) = .lst xs := Eq.trans rfl rfl
@[simp] theorem eq_int' : eqD st (.int i) (.int j) = some (.bl (i == j)) := Eq.trans rfl rfl
@[simp] theorem ne_int' : neD st (.int i) (.int j) = some (.bl (!(i == j))) := Eq.trans rfl rfl
@[simp] theorem eq_str' (s t : Str) : eqD st (.str s) (.str t) = some (.bl (s == t)) := Eq.trans rfl rfl
@[simp] theorem ne_str' (s t : Str) : neD st (.str s) (.str t) = some (.bl (!(s == t))) := Eq.trans rfl rfl
@[simp] theorem eq_bl' (s t : Bool) : eqD st (.bl s) (.bl t) = some (.bl (s == t)) := Eq.trans rfl rfl
@[simp] theorem ne_bl' (s t : Bool) : neD st (.bl s) (.bl t) = some (.bl (!(s == t))) := Eq.trans rfl rfl
end
theorem rng1_nat {n : Nat} (h : n ≤ 1000000) : rng1 (n : Int) = some (rangeD 0 n) := by
  unfold rng1; rw [if_pos (by omega)]; simp
/-- an item of a list of the store -/
def atO (o : Option SO) (k : Int) : Option D :=
  match o with
  | some (.lst xs) => atI xs k
  | _ => none
@[simp] theorem atO_0 (xs : List D) (k : Int) : atO (some (.lst xs)) k = atI xs k := Eq.trans rfl rfl
@[simp] theorem ix_ref' (st : Sto) (i : Nat) (k : Int) : ixD st (.ref i) (.int k) = atO (st[i]?) k := by
  show (((seqT (.ref i)).or (seqL st (.ref i))).bind fun xs => atI xs k) = _
  unfold seqT seqL atO
  dsimp only
  cases st[i]? with
  | none => rfl
  | some o => cases o <;> rfl
def lenO (o : Option SO) : Option D :=
  match o with
  | some (.lst xs) => some (.int xs.length)
  | _ => none
@[simp] theorem lenO_0 (xs : List D) : lenO (some (.lst xs)) = some (.int xs.length) := Eq.trans rfl rfl
@[simp] theorem len_ref' (st : Sto) (i : Nat) : lenD st [.ref i] = lenO (st[i]?) := by
  show ((seqT (.ref i)).or (seqL st (.ref i))).map (fun ys => D.int ys.length) = _
  unfold seqT seqL lenO
  dsimp only
  cases st[i]? with
  | none => rfl
  | some o => cases o <;> rfl
def lstO (o : Option SO) : Option (List D) :=
  match o with
  | some (.lst xs) => some xs
  | _ => none
@[simp] theorem lstO_0 (xs : List D) : lstO (some (.lst xs)) = some xs := Eq.trans rfl rfl
@[simp] theorem listAt_ref' (st : Sto) (i : Nat) : listAt st (.ref i) = lstO (st[i]?) := by
  unfold listAt lstO; rfl
@[simp] theorem listAt_lst' (st : Sto) (xs : List D) : listAt st (.lst xs) = some xs := Eq.trans rfl rfl
@[simp] theorem seqL_ref' (st : Sto) (i : Nat) : seqL st (.ref i) = lstO (st[i]?) := by
  unfold seqL lstO; rfl
/-- o[k] = v, o a list of the store -/
def setO (st : Sto) (i : Nat) (o : Option SO) (k : Int) (v : D) : Option Sto :=
  match o with
  | some (.lst xs) => (ixN xs.length k).map fun n => st.set i (.lst (xs.set n v))
  | _ => none
@[simp] theorem setO_0 (st : Sto) (i : Nat) (xs : List D) (k : Int) (v : D) : setO st i (some (.lst xs)) k v = (ixN xs.length k).map fun n => st.set i (.lst (xs.set n v)) := Eq.trans rfl rfl
@[simp] theorem setD_ref' (st : Sto) (i : Nat) (k : Int) (v : D) : setD st (.ref i) (.int k) v = setO st i (st[i]?) k v := by
  unfold setD setO; rfl
def appO (st : Sto) (i : Nat) (o : Option SO) (y : D) : Option (D × Sto) :=
  match o with
  | some (.lst xs) => if big (xs.length + 1) = true then some (.non, st.set i (.lst (xs ++ [y]))) else none
  | _ => none
@[simp] theorem appO_0 (st : Sto) (i : Nat) (xs : List D) (y : D) : appO st i (some (.lst xs)) y = if big (xs.length + 1) = true then some (.non, st.set i (.lst (xs ++ [y]))) else none := Eq.trans rfl rfl
@[simp] theorem app_ref' (st : Sto) (i : Nat) (y : D) : appD st (.ref i) [y] = appO st i (st[i]?) y := by
  unfold appD appO; rfl
@[simp] theorem chkL_ref' (st : Sto) (i : Nat) : chkL st (.ref i) = (lstO (st[i]?)).isSome := by
  unfold chkL; rw [seqL_ref']
theorem ixN_nat {n k : Nat} (h : k < n) : ixN n (k : Int) = some k := by
  unfold ixN; rw [if_pos (by omega), if_pos (by omega)]; simp
theorem gcO_tup (n : Nat) (xs : List D) (st : Sto) (h : D.underAll n xs = true) (h2 : (st.take n).all (SO.under n) = true) : gcO n (.val (.tup xs) st) = .val (.tup xs) (st.take n) := by
  unfold gcO settle
  have : D.under n (.tup xs) = true := by unfold D.under; exact h
  simp only [this, h2, Bool.and_self, if_true]
@[simp] theorem tuple_ref' (st : Sto) (i : Nat) : tupleD st [.ref i] = (lstO (st[i]?)).map .tup := by
  unfold tupleD one1 seqA seqT seqL lstO
  dsimp only
  cases st[i]? with
  | none => rfl
  | some o => cases o <;> rfl
theorem hds_no {T : ExTab} {Qs : List CD} {x : Ex} {h : Clause} {hs : List Clause} {r : Env} {st : Sto} (e : isSub T Qs x.cls h.c = some false) : hdsS T Qs x (h :: hs) r st = hdsS T Qs x hs r st := by
  show (match isSub T Qs x.cls h.c with | none => _ | some true => _ | some false => _) = _
  rw [e]
theorem hds_as {T : ExTab} {Qs : List CD} {x : Ex} {c : CD} {i : Nat} {s : Ex → DS} {hs : List Clause} {r : Env} {st : Sto} (e : isSub T Qs x.cls c = some true) : hdsS T Qs x (⟨c, some i, s⟩ :: hs) r st = noExS (s x (r.set i none) st) := by
  show (match isSub T Qs x.cls c with | none => _ | some true => _ | some false => _) = _
  rw [e]
theorem hds_bare {T : ExTab} {Qs : List CD} {x : Ex} {c : CD} {s : Ex → DS} {hs : List Clause} {r : Env} {st : Sto} (e : isSub T Qs x.cls c = some true) : hdsS T Qs x (⟨c, none, s⟩ :: hs) r st = noExS (s x r st) := by
  show (match isSub T Qs x.cls c with | none => _ | some true => _ | some false => _) = _
  rw [e]
@[simp] theorem noExS_nx (r : Env) (st : Sto) : noExS (.nx r st) = .nx r st := Eq.trans rfl rfl
@[simp] theorem noExS_rt (r : D) (st : Sto) : noExS (.rt r st) = .rt r st := Eq.trans rfl rfl
@[simp] theorem excF_ap (c n : Str) (fs : List (Str × D)) (r : Env) (st : Sto) : excF ⟨c, fs⟩ c n r st = ofOpt (fs.lookup n) st := by unfold excF; rw [if_pos rfl]
@[simp] theorem excI_ap (T : ExTab) (Qs : List CD) (x : Ex) (q : CD) (r : Env) (st : Sto) : excI T Qs x q r st = ofOpt ((isSub T Qs x.cls q).map .bl) st := Eq.trans rfl rfl
@[simp] theorem excIs_ap (T : ExTab) (Qs : List CD) (x : Ex) (qs : List CD) (r : Env) (st : Sto) : excIs T Qs x qs r st = ofOpt ((anySub T Qs x.cls qs).map .bl) st := Eq.trans rfl rfl
theorem atI_ge {α : Type} {xs : List α} {i : Nat} {x : α} (h : xs[i]? = some x) : atI xs (i : Int) = some x := atI_nat h
@[simp] theorem at_0 {α : Type} (a : α) (xs : List α) : atI (a :: xs) 0 = some a := atI_nat (j := 0) rfl
@[simp] theorem at_1 {α : Type} (a b : α) (xs : List α) : atI (a :: b :: xs) 1 = some b := atI_nat (j := 1) rfl
@[simp] theorem at_2 {α : Type} (a b c : α) (xs : List α) : atI (a :: b :: c :: xs) 2 = some c := atI_nat (j := 2) rfl
theorem big_of {n : Nat} (h : n ≤ 1000000) : big n = true := decide_eq_true h
/-! ### loops and comprehensions -/
theorem bind_val {α β : Type} (a : α) (st : Sto) (g : α → Sto → O β) : O.bind (.val a st) g = g a st := rfl
theorem to_val {α : Type} (a : α) (st : Sto) (r : Env) (g : α → Sto → OS) : O.to (.val a st) r g = g a st := rfl
theorem lc_pure {sl : D → Env → Option Env} {ft : DX Bool} {fe : DX D} {r0 : Env} {st : Sto} (p : D → Bool) (f : D → D) : ∀ (ds acc : List D), (∀ d ∈ ds, ∃ r1, sl d r0 = some r1 ∧ ft r1 st = .val (p d) st ∧ (p d = true → fe r1 st = .val (f d) st)) →
    lcL sl ft fe r0 ds acc st = .val (acc ++ (ds.filter p).map f) st
  | [], acc, _ => by simp [lcL]
  | d :: ds, acc, h => by
    obtain ⟨r1, h1, h2, h3⟩ := h d List.mem_cons_self
    unfold lcL
    simp only [h1, h2, noEx_val, bind_val]
    by_cases hp : p d = true
    · simp only [hp, if_true, h3 hp, noEx_val, bind_val, List.filter_cons, List.map_cons]
      rw [lc_pure p f ds _ fun x hx => h x (List.mem_cons_of_mem _ hx)]
      simp
    · simp only [hp, List.filter_cons]
      exact lc_pure p f ds acc fun x hx => h x (List.mem_cons_of_mem _ hx)
theorem lc_pure1 {i : Nat} {ft : DX Bool} {fe : DX D} {r0 : Env} {st : Sto} (p : D → Bool) (f : D → D) (ds acc : List D) (h : ∀ d ∈ ds, ft (r0.set i (some d)) st = .val (p d) st ∧ (p d = true → fe (r0.set i (some d)) st = .val (f d) st)) : lcL (slot1 i) ft fe r0 ds acc st = .val (acc ++ (ds.filter p).map f) st :=
  lc_pure p f ds acc fun d hd => ⟨_, rfl, h d hd⟩
theorem lc_map1 {i : Nat} {fe : DX D} {r0 : Env} {st : Sto} (f : D → D) (ds acc : List D) (h : ∀ d ∈ ds, fe (r0.set i (some d)) st = .val (f d) st) : lcL (slot1 i) yesT fe r0 ds acc st = .val (acc ++ ds.map f) st := by
  rw [lc_pure1 (fun _ => true) f ds acc fun d hd => ⟨rfl, fun _ => h d hd⟩, List.filter_eq_self.mpr fun _ _ => rfl]
/-- a comprehension that changes the store: I tells of what is left, of what is made, of the store -/
theorem lc_inv {sl : D → Env → Option Env} {fe : DX D} {r0 : Env} (I : List D → List D → Sto → Prop) (step : ∀ d ds acc st, I (d :: ds) acc st → ∃ r1 y st2, sl d r0 = some r1 ∧ fe r1 st = .val y st2 ∧ I ds (acc ++ [y]) st2) :
    ∀ (ds acc : List D) (st : Sto), I ds acc st → ∃ xs st2, lcL sl yesT fe r0 ds acc st = .val xs st2 ∧ I [] xs st2
  | [], acc, st, h => ⟨acc, st, rfl, h⟩
  | d :: ds, acc, st, h => by
    obtain ⟨r1, y, st2, h1, h2, h3⟩ := step d ds acc st h
    obtain ⟨xs, st3, h4, h5⟩ := lc_inv I step ds _ _ h3
    refine ⟨xs, st3, ?_, h5⟩
    unfold lcL
    simp only [h1, h2, noEx_val, bind_val, yesT_ap, if_true, h4]
/-! comprehensions over a written list -/
def lcB (i : Nat) (ft : DX Bool) (fe : DX D) (r0 : Env) (ds acc : List D) (o : O D) : O (List D) :=
  match o with
  | .val y st2 => lcL (slot1 i) ft fe r0 ds (acc ++ [y]) st2
  | _ => .bad
@[simp] theorem lcB_0 (i : Nat) (ft : DX Bool) (fe : DX D) (r0 : Env) (ds acc : List D) (y : D) (st2 : Sto) : lcB i ft fe r0 ds acc (.val y st2) = lcL (slot1 i) ft fe r0 ds (acc ++ [y]) st2 := Eq.trans rfl rfl
def lcA (i : Nat) (ft : DX Bool) (fe : DX D) (r0 : Env) (d : D) (ds acc : List D) (o : O Bool) : O (List D) :=
  match o with
  | .val true st1 => lcB i ft fe r0 ds acc (fe (r0.set i (some d)) st1)
  | .val false st1 => lcL (slot1 i) ft fe r0 ds acc st1
  | _ => .bad
@[simp] theorem lcA_0 (i : Nat) (ft : DX Bool) (fe : DX D) (r0 : Env) (d : D) (ds acc : List D) (st1 : Sto) : lcA i ft fe r0 d ds acc (.val true st1) = lcB i ft fe r0 ds acc (fe (r0.set i (some d)) st1) := Eq.trans rfl rfl
@[simp] theorem lcA_1 (i : Nat) (ft : DX Bool) (fe : DX D) (r0 : Env) (d : D) (ds acc : List D) (st1 : Sto) : lcA i ft fe r0 d ds acc (.val false st1) = lcL (slot1 i) ft fe r0 ds acc st1 := Eq.trans rfl rfl
@[simp] theorem lcL_nil (sl : D → Env → Option Env) (ft : DX Bool) (fe : DX D) (r0 : Env) (acc : List D) (st : Sto) : lcL sl ft fe r0 [] acc st = .val acc st := by unfold lcL; rfl
@[simp] theorem lcL_cons1 (i : Nat) (ft : DX Bool) (fe : DX D) (r0 : Env) (d : D) (ds acc : List D) (st : Sto) : lcL (slot1 i) ft fe r0 (d :: ds) acc st = lcA i ft fe r0 d ds acc (ft (r0.set i (some d)) st) := by
  rw [lcL]
  simp only [slot1_ap]
  generalize ft (r0.set i (some d)) st = o
  cases o with
  | val k st1 =>
    cases k with
    | true =>
      simp only [noEx_val, bind_val, if_true, lcA_0]
      generalize fe (r0.set i (some d)) st1 = z
      cases z <;> rfl
    | false => rfl
  | _ => rfl
def lpB (g : DG) (b : DS) (ds : List D) (o : OS) : OS :=
  match o with
  | .nx r2 st2 => loopS g b ds r2 st2
  | .ct r2 st2 => loopS g b ds r2 st2
  | .bk r2 st2 => .nx r2 st2
  | o => o
@[simp] theorem lpB_0 (g : DG) (b : DS) (ds : List D) (r : Env) (st : Sto) : lpB g b ds (.nx r st) = loopS g b ds r st := Eq.trans rfl rfl
@[simp] theorem lpB_1 (g : DG) (b : DS) (ds : List D) (r : Env) (st : Sto) : lpB g b ds (.ct r st) = loopS g b ds r st := Eq.trans rfl rfl
@[simp] theorem lpB_2 (g : DG) (b : DS) (ds : List D) (r : Env) (st : Sto) : lpB g b ds (.bk r st) = .nx r st := Eq.trans rfl rfl
@[simp] theorem lpB_3 (g : DG) (b : DS) (ds : List D) (d : D) (st : Sto) : lpB g b ds (.rt d st) = .rt d st := Eq.trans rfl rfl
@[simp] theorem lpB_4 (g : DG) (b : DS) (ds : List D) (e : Ex) (r : Env) (st : Sto) : lpB g b ds (.exc e r st) = .exc e r st := Eq.trans rfl rfl
def lpA (g : DG) (b : DS) (ds : List D) (r : Env) (o : O Env) : OS :=
  match o with
  | .val r1 st1 => lpB g b ds (b r1 st1)
  | .exc e st1 => .exc e r st1
  | .bad => .bad
@[simp] theorem lpA_0 (g : DG) (b : DS) (ds : List D) (r r1 : Env) (st1 : Sto) : lpA g b ds r (.val r1 st1) = lpB g b ds (b r1 st1) := Eq.trans rfl rfl
@[simp] theorem loop_nil (g : DG) (b : DS) (r : Env) (st : Sto) : loopS g b [] r st = .nx r st := Eq.trans rfl rfl
@[simp] theorem loop_cons (g : DG) (b : DS) (d : D) (ds : List D) (r : Env) (st : Sto) : loopS g b (d :: ds) r st = lpA g b ds r (g d r st) := by
  unfold loopS
  generalize g d r st = o
  cases o with
  | val r1 st1 =>
    simp only [to_val, lpA_0]
    unfold lpB
    generalize b r1 st1 = z
    cases z <;> first | rfl | (cases ds <;> rfl)
  | _ => rfl
def whB (t : DX Bool) (b : DS) (n : Nat) (o : OS) : OS :=
  match o with
  | .nx r2 st2 => whileS t b n r2 st2
  | .ct r2 st2 => whileS t b n r2 st2
  | .bk r2 st2 => .nx r2 st2
  | o => o
@[simp] theorem whB_0 (t : DX Bool) (b : DS) (n : Nat) (r : Env) (st : Sto) : whB t b n (.nx r st) = whileS t b n r st := Eq.trans rfl rfl
@[simp] theorem whB_1 (t : DX Bool) (b : DS) (n : Nat) (r : Env) (st : Sto) : whB t b n (.ct r st) = whileS t b n r st := Eq.trans rfl rfl
@[simp] theorem whB_2 (t : DX Bool) (b : DS) (n : Nat) (r : Env) (st : Sto) : whB t b n (.bk r st) = .nx r st := Eq.trans rfl rfl
@[simp] theorem whB_3 (t : DX Bool) (b : DS) (n : Nat) (d : D) (st : Sto) : whB t b n (.rt d st) = .rt d st := Eq.trans rfl rfl
def whA (t : DX Bool) (b : DS) (n : Nat) (r : Env) (o : O Bool) : OS :=
  match o with
  | .val true st1 => whB t b n (b r st1)
  | .val false st1 => .nx r st1
  | .exc e st1 => .exc e r st1
  | .bad => .bad
@[simp] theorem whA_0 (t : DX Bool) (b : DS) (n : Nat) (r : Env) (st1 : Sto) : whA t b n r (.val true st1) = whB t b n (b r st1) := Eq.trans rfl rfl
@[simp] theorem whA_1 (t : DX Bool) (b : DS) (n : Nat) (r : Env) (st1 : Sto) : whA t b n r (.val false st1) = .nx r st1 := Eq.trans rfl rfl
theorem whileS_succ (t : DX Bool) (b : DS) (n : Nat) (r : Env) (st : Sto) : whileS t b (n + 1) r st = whA t b n r (t r st) := by
  unfold whileS
  generalize t r st = o
  cases o with
  | val k st1 =>
    cases k with
    | true =>
      show _ = whB t b n (b r st1)
      simp only [to_val, if_true]
      unfold whB
      generalize b r st1 = z
      cases z <;> rfl
    | false => rfl
  | _ => rfl
@[simp] theorem whileF_ap (fuel : Env → Sto → Nat) (t : DX Bool) (b : DS) (r : Env) (st : Sto) : whileF fuel t b r st = whileS t b (fuel r st) r st := Eq.trans rfl rfl
theorem loop_inv {g : DG} {b : DS} (I : List D → Env → Sto → Prop) (step : ∀ d ds r st, I (d :: ds) r st → ∃ r1 st1 r2 st2, g d r st = .val r1 st1 ∧ (b r1 st1 = .nx r2 st2 ∨ b r1 st1 = .ct r2 st2) ∧ I ds r2 st2) :
    ∀ (ds : List D) (r : Env) (st : Sto), I ds r st → ∃ r2 st2, loopS g b ds r st = .nx r2 st2 ∧ I [] r2 st2
  | [], r, st, h => ⟨r, st, rfl, h⟩
  | d :: ds, r, st, h => by
    obtain ⟨r1, st1, r2, st2, h1, h2, h3⟩ := step d ds r st h
    obtain ⟨r3, st3, h4, h5⟩ := loop_inv I step ds _ _ h3
    refine ⟨r3, st3, ?_, h5⟩
    unfold loopS
    rw [h1]
    rcases h2 with h2 | h2 <;> simp only [to_val, h2, h4]
end DL
set_option Elab.async false
set_option linter.all false
set_option maxRecDepth 100000
set_option autoImplicit false
set_option maxHeartbeats 2000000
namespace DL
open PySem PySem.Spec L2 PyProof.Rows
/-! ### methods of texts -/
def chkS : Sto → D → Bool := fun _ d =>
  match d with
  | .str _ => true
  | _ => false
def strsOf : List D → Option (List Str)
  | [] => some []
  | .str s :: r => (strsOf r).map (s :: ·)
  | _ :: _ => none
def splitM : Sto → D → List D → Option (D × Sto) := fun st x ys =>
  match x, ys with
  | .str a, [.str b] => if (!(b.length == 0) && big (a.length + 2)) = true then some (.lst ((Txt.split a b).map .str), st) else none
  | _, _ => none
def joinM : Sto → D → List D → Option (D × Sto) := fun st x ys =>
  match x, ys with
  | .str a, [y] => (seqA st y).bind fun zs => (strsOf zs).bind fun ss => if big ((ss.map (·.length)).sum + ss.length * a.length) = true then some (.str (Txt.join a ss), st) else none
  | _, _ => none
def stripM : Sto → D → List D → Option (D × Sto) := fun st x ys =>
  match x, ys with
  | .str a, [.str b] => if big a.length = true then some (.str (Txt.stripChars a b), st) else none
  | _, _ => none
section
variable {X : Cx} {K : PySem.W.Frag} {L : Str → Addr}
theorem chkS_ok : ChkOk K L "str" chkS := by
  intro F m st H x v w r e
  cases x with
  | str s =>
    cases (show v = .str s from r)
    rfl
  | _ => cases e
theorem Reps.strs {F : Hp} {m : List Addr} : ∀ ss : List Str, Reps K F m (ss.map .str) (ss.map V.str)
  | [] => rfl
  | s :: ss => ⟨_, _, rfl, rfl, Reps.strs ss⟩
theorem strs_rep {F : Hp} {m : List Addr} : ∀ {xs : List D} {vs : List V} {ss : List Str}, Reps K F m xs vs → strsOf xs = some ss → vs = ss.map V.str
  | [], vs, ns, h, e => by
    cases e
    exact h
  | x :: xs, vs, ns, h, e => by
    unfold strsOf at e
    split at e
    · rename_i hq
      cases hq
    · rename_i i r heq
      cases heq
      cases e1 : strsOf xs with
      | none => rw [e1] at e; cases e
      | some ms =>
        rw [e1] at e
        cases e
        simp only [Reps] at h
        obtain ⟨v, t, rfl, r1, r2⟩ := h
        cases (show v = .str i from r1)
        rw [strs_rep r2 e1]
        rfl
    · cases e
theorem r_split : RefM K L (fun x xs H Q => ∃ a b, x = .str a ∧ xs = [.str b] ∧ (b.length == 0) = false ∧ a.length + 2 ≤ sizeLine ∧ rNewStrs (Txt.split a b) H Q) splitM := by
  intro F m st H x v ys vs z st' Q w rx ry e q
  unfold splitM at e
  split at e
  · rename_i a b
    split at e
    · rename_i c
      simp only [Option.some.injEq, Prod.mk.injEq] at e
      obtain ⟨rfl, rfl⟩ := e
      simp only [Bool.and_eq_true, Bool.not_eq_true'] at c
      obtain ⟨u, rfl, ru⟩ := Reps.one ry
      cases (show v = .str a from rx)
      cases (show u = .str b from ru)
      exact ⟨a, b, rfl, rfl, c.1, big_line c.2, fun p hp => frozen_lst w (Reps.strs _) q p hp⟩
    · cases e
  · cases e
theorem r_join : RefM K L (fun x xs H Q => ∃ a p, ∃ ys : List Str, x = .str a ∧ xs = [.ref p] ∧ (SqL K H p (ys.map V.str) ∨ SqT K H p (ys.map V.str)) ∧ (ys.map (·.length)).sum + ys.length * a.length ≤ 16777216 ∧ Q (.str (Txt.join a ys)) H) joinM := by
  intro F m st H x v ys vs z st' Q w rx ry e q
  unfold joinM at e
  split at e
  · rename_i a y
    cases e1 : seqA st y with
    | none => rw [e1] at e; cases e
    | some zs =>
      rw [e1] at e
      cases e2 : strsOf zs with
      | none => simp only [Option.bind, e2] at e; cases e
      | some ss =>
        simp only [Option.bind, e2] at e
        split at e
        · rename_i c
          simp only [Option.some.injEq, Prod.mk.injEq] at e
          obtain ⟨rfl, rfl⟩ := e
          obtain ⟨u, rfl, ru⟩ := Reps.one ry
          cases (show v = .str a from rx)
          obtain ⟨p, us, rfl, h1, h2⟩ := seqA_rep w ru e1
          rw [strs_rep h2 e2] at h1
          exact ⟨a, p, ss, rfl, rfl, h1, by have := of_decide_eq_true c; omega, q F m H _ .refl w rfl⟩
        · cases e
  · cases e
theorem r_stripC : RefM K L (fun x xs H Q => ∃ a b, x = .str a ∧ xs = [.str b] ∧ a.length ≤ sizeLine ∧ Q (.str (Txt.stripChars a b)) H) stripM := by
  intro F m st H x v ys vs z st' Q w rx ry e q
  unfold stripM at e
  split at e
  · rename_i a b
    split at e
    · rename_i c
      simp only [Option.some.injEq, Prod.mk.injEq] at e
      obtain ⟨rfl, rfl⟩ := e
      obtain ⟨u, rfl, ru⟩ := Reps.one ry
      cases (show v = .str a from rx)
      cases (show u = .str b from ru)
      exact ⟨a, b, rfl, rfl, big_line c, q F m H _ .refl w rfl⟩
    · cases e
  · cases e
end
section
variable {st : Sto}
@[simp] theorem add_str' (a b : Str) : addD st (.str a) (.str b) = if big (a.length + b.length) = true then some (.str (a ++ b)) else none := by
  simp only [addD, addI, i2, addS, addT, addL, listAt, Option.none_or, Option.or_none]
@[simp] theorem len_str' (a : Str) : lenD st [.str a] = if big a.length = true then some (.int a.length) else none := Eq.trans rfl rfl
@[simp] theorem chkS_str (a : Str) : chkS st (.str a) = true := Eq.trans rfl rfl
@[simp] theorem split_str' (a b : Str) : splitM st (.str a) [.str b] = if (!(b.length == 0) && big (a.length + 2)) = true then some (.lst ((Txt.split a b).map .str), st) else none := Eq.trans rfl rfl
@[simp] theorem strip_str' (a b : Str) : stripM st (.str a) [.str b] = if big a.length = true then some (.str (Txt.stripChars a b), st) else none := Eq.trans rfl rfl
theorem strs_map : ∀ ss : List Str, strsOf (ss.map .str) = some ss
  | [] => rfl
  | s :: ss => by simp [strsOf, strs_map ss]
theorem join_lst' (a : Str) (ss : List Str) : joinM st (.str a) [.lst (ss.map .str)] = if big ((ss.map (·.length)).sum + ss.length * a.length) = true then some (.str (Txt.join a ss), st) else none := by
  have e : seqA st (.lst (ss.map .str)) = some (ss.map D.str) := rfl
  unfold joinM
  dsimp only
  rw [e, Option.bind_some, strs_map, Option.bind_some]
end
end DL
set_option Elab.async false
set_option linter.all false
set_option maxRecDepth 100000
set_option autoImplicit false
set_option maxHeartbeats 2000000
namespace DL
open PySem PySem.Spec L2 PyProof.Rows
/-! ### a walk over a list of the store: each turn looks at it anew -/
def loopR (i : Nat) (g : DG) (b : DS) : Nat → Nat → DS
  | 0, _ => badS
  | n + 1, j => fun r st =>
    match st[i]? with
    | some (.lst xs) => (match xs[j]? with
      | some d => (g d r st).to r fun r1 st1 =>
        match b r1 st1 with
        | .nx r2 st2 => loopR i g b n (j + 1) r2 st2
        | .ct r2 st2 => loopR i g b n (j + 1) r2 st2
        | .bk r2 st2 => .nx r2 st2
        | o => o
      | none => .nx r st)
    | _ => .bad
def forR (fuel : Nat) (f : DX D) (g : DG) (b : DS) : DS := fun r st => (f r st).to r fun d st1 =>
  match d with
  | .ref i => loopR i g b fuel 0 r st1
  | _ => .bad
section
variable {X : Cx} {L : Str → Addr} {W : WX} {P : Option XP} {f : DX D} {g : DG} {b : DS} {pos : Pos}
theorem forR_of {K : PySem.W.Frag} {fuel : Nat} {Dn : Ends} {s : L2.St} {H : Hp} (h : cS K L W P (forR fuel f g b) Dn s H) : tFor (iAny K (cE K L W P f)) (cGt K L W P g) (cS K L W P b) Dn s H := by
  obtain ⟨F, m, st, rr, w, hr, q⟩ := h
  refine stepS w hr q fun d st1 F1 m1 H1 v _ w1 hr1 rd q1 => ?_
  cases d with
  | ref i =>
    obtain ⟨a, rfl, hi⟩ := rd
    have q1 : (loopR i g b fuel 0 rr st1).sat (wants K L W P F1 m1 H1 Dn) := q1
    have here : ∀ {F2 : Hp} {m2 : List Addr} {st2 : Sto} {H2 : Hp}, Wd K L F2 m2 st2 H2 → m2[i]? = some a → ∃ o h, st2[i]? = some o ∧ H2 a = some h ∧ RepO K L F2 m2 o h := fun w2 hi2 => w2.at_ i a hi2
    have sq : ∃ xs, SqL K H1 a xs := by
      obtain ⟨o, h, e1, e2, e3⟩ := here w1 hi
      cases fuel with
      | zero => exact q1.elim
      | succ n =>
        unfold loopR at q1
        rw [e1] at q1
        cases o with
        | lst xs =>
          obtain ⟨vs, rfl, _⟩ := e3
          exact ⟨vs, .inl (.inl e2)⟩
        | _ => exact q1.elim
    refine ⟨a, rfl, .inl ⟨sq, ?_⟩⟩
    refine ⟨fun j n s2 H2 => ∃ F2 m2 st2 r2, Wd K L F2 m2 st2 H2 ∧ RepSt K P F2 m2 r2 s2 ∧ m2[i]? = some a ∧ (loopR i g b n j r2 st2).sat (wants K L W P F2 m2 H2 Dn), ⟨fuel, F1, m1, st1, rr, w1, hr1, hi, q1⟩, ?_⟩
    rintro j n s2 H2 ⟨F2, m2, st2, r2, w2, hr2, hi2, q2⟩
    cases n with
    | zero => exact q2.elim
    | succ n =>
      obtain ⟨o, h, e1, e2, e3⟩ := here w2 hi2
      unfold loopR at q2
      rw [e1] at q2
      cases o with
      | lst xs =>
        obtain ⟨vs, rfl, rv⟩ := e3
        have hsq : SqL K H2 a vs := .inl (.inl e2)
        cases ex : xs[j]? with
        | none =>
          simp only [ex] at q2
          refine .inl ⟨⟨vs, hsq, ?_⟩, q2 F2 m2 H2 s2 .refl w2 hr2⟩
          rw [Reps.length rv]
          exact List.getElem?_eq_none_iff.mp ex
        | some d =>
          simp only [ex] at q2
          obtain ⟨x, hx, rx⟩ := Reps.get rv ex
          refine .inr ⟨⟨vs, x, hsq, hx⟩, fun s3 H3 => ∃ F3 m3 st3 r3, Wd K L F3 m3 st3 H3 ∧ RepSt K P F3 m3 r3 s3 ∧ m3[i]? = some a ∧ (loopR i g b n (j + 1) r3 st3).sat (wants K L W P F3 m3 H3 Dn), fun s3 H3 z => ⟨n, Nat.lt_succ_self n, z⟩, fun y H3 hy => ?_⟩
          obtain ⟨rfl, hy⟩ := hy
          have hxy : x = y := Option.some.inj (hx.symm.trans (hy vs hsq))
          subst hxy
          refine ⟨F2, m2, st2, r2, d, w2, hr2, rx, ?_⟩
          cases eg : g d r2 st2 with
          | bad => rw [eg] at q2; exact q2
          | exc x st3 => rw [eg] at q2; exact wants_ex hr2 q2
          | val r3 st3 =>
            rw [eg] at q2
            intro F4 m4 H4 s4 e4 w4 hr4
            refine ⟨F4, m4, st3, r3, w4, hr4, ?_⟩
            refine turn_of (OS.sat.ext e4 q2) fun r5 st5 F5 m5 H5 s5 e5 w5 hr5 q5 => ?_
            refine ⟨F5, m5, st5, r5, w5, hr5, ?_, q5⟩
            obtain ⟨x2, y2⟩ := (e4.trans e5).em
            rw [y2]
            exact pre_get hi2
      | _ => exact q2.elim
  | _ => exact q1.elim
theorem d_forR {fuel : Nat} {tg iter : Expr} {body : List Stmt} (hp : PassesOwn (model X.prog X.w) X.A X.env X.xe) (hc : X.calm = true) (hi : PE X iter (cE X.K L W P f)) (hg : PG X tg (cGt X.K L W P g)) (hb : PSs X body (cS X.K L W P b))
    (hs : ∀ x, foldedSetIterable iter X.env x = pure x := by intro _; rfl) : PS X (.For tg iter body [] pos) (cS X.K L W P (forR fuel f g b)) :=
  PSw (ps_for hp hc (pi_any hi) hg hb hs) fun _ _ _ h => forR_of h
end
end DL
set_option Elab.async false
set_option linter.all false
set_option maxRecDepth 100000
set_option autoImplicit false
set_option maxHeartbeats 2000000
namespace DL
open PySem PySem.Spec L2
/-! ### a comprehension over a list of the store -/
def lcLR (ix : Nat) (sl : D → Env → Option Env) (ft : DX Bool) (fe : DX D) (r0 : Env) : Nat → Nat → List D → Sto → O (List D)
  | 0, _, _, _ => .bad
  | n + 1, j, acc, st =>
    match st[ix]? with
    | some (.lst xs) => (match xs[j]? with
      | some d => (match sl d r0 with
        | none => .bad
        | some r1 => (noEx (ft r1 st)).bind fun k st1 => if k = true then (noEx (fe r1 st1)).bind fun y st2 => lcLR ix sl ft fe r0 n (j + 1) (acc ++ [y]) st2 else lcLR ix sl ft fe r0 n (j + 1) acc st1)
      | none => .val acc st)
    | _ => .bad
def lcR (fuel : Nat) (f : DX D) (sl : D → Env → Option Env) (vs : List Nat) (ft : DX Bool) (fe : DX D) : DX D := fun r st => (f r st).bind fun d st1 =>
  match d with
  | .ref ix => if big fuel = true then (lcLR ix sl ft fe (wipeD r vs) fuel 0 [] st1).bind fun xs st2 => .val (.lst xs) st2 else .bad
  | _ => .bad
section
variable {X : Cx} {L : Str → Addr} {W : WX} {P : Option XP} {f fe : DX D} {ft : DX Bool} {pos : Pos}
theorem lcR_core {K : PySem.W.Frag} {G : TG} {sl : D → Env → Option Env} {vs : List Nat} (hG : TgOk K L P G sl vs) (hvs : ∀ i ∈ vs, free P i) {F1 : Hp} {m1 : List Addr} {st1 : Sto} {H1 : Hp} {r : Env} {s : L2.St} {fuel ix : Nat} {a : Addr} {p : Addr} {Qd : Hp → Prop} {Qf : List D → Sto → Prop} {E : Ex → Sto → Prop}
    (w1 : Wd K L F1 m1 st1 H1) (hr : RepSt K P F1 m1 r s) (hb : big fuel = true) (hi : m1[ix]? = some a) (hp : H1 p = none) (q : (lcLR ix sl ft fe (wipeD r vs) fuel 0 [] st1).sat Qf E)
    (fin : ∀ xs st2 H2 F2 m2 va, LcAt K L P F1 m1 H1 p (wipeD r vs) (wipe s vs) xs st2 H2 F2 m2 va → Qf xs st2 → Qd H2) :
    ∃ Wt : Nat → Nat → Hp → Prop, (∃ n, Wt 0 n (upd H1 p (.lst []))) ∧ ∀ i n H, Wt i n H →
      ((Itl K a).stop i H ∧ Qd H) ∨ ((Itl K a).go i H ∧ ∃ Nx : Hp → Prop, (∀ H', Nx H' → ∃ n', n' < n ∧ Wt (i + 1) n' H') ∧ ∀ x H', (Itl K a).yld i H x H' → G x (L2.wipe s vs) H' fun s2 H2 => L2.wipe s2 vs = L2.wipe s vs ∧ cT K L (fun _ _ _ _ => False) P ft s2 H2 fun b H3 =>
        if b = true then cE K L (fun _ _ _ _ => False) P fe s2 H3 fun y H4 => ∃ acc, H4 p = some (.lst acc) ∧ acc.length < sizeLine ∧ Nx (upd H4 p (.lst (acc ++ [y]))) else Nx H3) := by
  have hF := w1.new_F hp
  have hm := w1.new_ne hp
  refine ⟨fun i n H => ∃ acc st2 F2 m2 va, LcAt K L P F1 m1 H1 p (wipeD r vs) (wipe s vs) acc st2 H F2 m2 va ∧ acc.length + n ≤ fuel ∧ (lcLR ix sl ft fe (wipeD r vs) n i acc st2).sat Qf E,
    ⟨fuel, [], st1, F1, m1, [], ⟨w1.other hF hm, hr.wipe hvs, Ext.over .refl hp, upd_same, rfl, hF, hm⟩, by simp, q⟩, ?_⟩
  rintro i n H ⟨acc, st2, F2, m2, va, A, hl, q2⟩
  cases n with
  | zero => exact q2.elim
  | succ n =>
    have hi2 : m2[ix]? = some a := by
      obtain ⟨x, e⟩ := A.ex.em
      rw [e]
      exact pre_get hi
    obtain ⟨o, h, e1, e2, e3⟩ := A.wd.at_ ix a hi2
    unfold lcLR at q2
    rw [e1] at q2
    cases o with
    | lst xs =>
      obtain ⟨us, rfl, rv⟩ := e3
      have hsq : SqL K H a us := .inl (.inl e2)
      cases ex : xs[i]? with
      | none =>
        simp only [ex] at q2
        refine .inl ⟨⟨us, hsq, ?_⟩, fin acc st2 H F2 m2 va A q2⟩
        rw [Reps.length rv]
        exact List.getElem?_eq_none_iff.mp ex
      | some d =>
        simp only [ex] at q2
        obtain ⟨x, hx, rx⟩ := Reps.get rv ex
        refine .inr ⟨⟨us, x, hsq, hx⟩, fun H' => ∃ acc st3 F3 m3 va, LcAt K L P F1 m1 H1 p (wipeD r vs) (wipe s vs) acc st3 H' F3 m3 va ∧ acc.length + n ≤ fuel ∧ (lcLR ix sl ft fe (wipeD r vs) n (i + 1) acc st3).sat Qf E,
          fun H' z => ⟨n, Nat.lt_succ_self n, z⟩, fun y H' hy => ?_⟩
        obtain ⟨rfl, hy⟩ := hy
        have hxy : x = y := Option.some.inj (hx.symm.trans (hy us hsq))
        subst hxy
        cases es : sl d (wipeD r vs) with
        | none => rw [es] at q2; exact q2.elim
        | some r1 =>
          rw [es] at q2
          refine hG F2 m2 st2 _ _ x _ s r1 _ A.wd rx A.rs es fun s2 hs2 hw2 => ⟨hw2, ?_⟩
          have keep : ∀ {F4 H4 : Hp} {m4 : List Addr}, Ext F2 m2 H' F4 m4 H4 → H4 p = some (.lst va) ∧ Reps K F4 m4 acc va ∧ F4 p = none ∧ p ∉ m4 := fun {F4 H4 m4} e4 =>
            ⟨e4.ek p _ A.at_ A.nm, A.ra.ext e4, e4.eg p (by rw [A.at_]; simp) A.nm A.nF, e4.en p (by rw [A.at_]; simp) A.nm⟩
          have q3 := O.sat_bind q2
          refine ⟨F2, m2, st2, r1, A.wd, hs2, (noEx_sat (E' := exE K L (fun _ _ _ _ => False) F2 m2 H' s2) q3).imp (fun k st4 q4 F4 m4 H4 b e4 w4 rb => ?_) fun _ _ z => z⟩
          have rb : k = b := rb
          subst rb
          cases k with
          | false =>
            dsimp only at q4 ⊢
            rw [if_neg Bool.false_ne_true] at q4 ⊢
            obtain ⟨k1, k2, k3, k4⟩ := keep e4
            exact ⟨acc, st4, F4, m4, va, ⟨w4, A.rs.ext e4, A.ex.trans e4, k1, k2, k3, k4⟩, by omega, q4⟩
          | true =>
            dsimp only at q4 ⊢
            rw [if_pos rfl] at q4 ⊢
            have q5 := O.sat_bind q4
            refine ⟨F4, m4, st4, r1, w4, hs2.ext e4, (noEx_sat (E' := exE K L (fun _ _ _ _ => False) F4 m4 H4 s2) q5).imp (fun y st5 q6 F5 m5 H5 v e5 w5 rv => ?_) fun _ _ z => z⟩
            obtain ⟨k1, k2, k3, k4⟩ := keep (e4.trans e5)
            have bl : fuel ≤ 1000000 := of_decide_eq_true hb
            refine ⟨va, k1, by rw [Reps.length k2, sizeLine_eq]; omega, acc ++ [y], st5, F5, m5, va ++ [v], ⟨w5.other k3 k4, (A.rs.ext e4).ext e5, Ext.over ((A.ex.trans e4).trans e5) hp, upd_same, ?_, k3, k4⟩, by simp; omega, q6⟩
            exact Reps.app rv k2
    | _ => exact q2.elim
theorem lcR_of {K : PySem.W.Frag} {fuel : Nat} {G : TG} {sl : D → Env → Option Env} {vs : List Nat} (hG : TgOk K L P G sl vs) (hvs : ∀ i ∈ vs, free P i) {s : L2.St} {H : Hp} {Q : VK} (h : cE K L W P (lcR fuel f sl vs ft fe) s H Q) :
    tLc (iAny K (cE K L W P f)) G (cT K L (fun _ _ _ _ => False) P ft) (cE K L (fun _ _ _ _ => False) P fe) vs s H Q := by
  obtain ⟨F, m, st, rr, w, hr, q⟩ := h
  refine ⟨F, m, st, rr, w, hr, (O.sat_bind q).imp (fun d st1 q1 F1 m1 H1 v e1 w1 rd => ?_) fun _ _ z => z⟩
  cases d with
  | ref ix =>
    obtain ⟨a, rfl, hi⟩ := rd
    have hr1 := hr.ext e1
    dsimp only at q1
    by_cases hb : big fuel = true
    · rw [if_pos hb] at q1
      have sq : ∃ xs, SqL K H1 a xs := by
        obtain ⟨o, h, e2, e3, e4⟩ := w1.at_ ix a hi
        cases fuel with
        | zero => exact q1.elim
        | succ n =>
          unfold lcLR at q1
          rw [e2] at q1
          cases o with
          | lst xs =>
            obtain ⟨vs, rfl, _⟩ := e4
            exact ⟨vs, .inl (.inl e3)⟩
          | _ => exact q1.elim
      refine ⟨a, rfl, .inl ⟨sq, fun p hp => ?_⟩⟩
      exact lcR_core hG hvs w1 hr1 hb hi hp (O.sat_bind q1) fun xs st2 H2 F2 m2 va A qf => lc_froze hp A (okG.ext e1 qf)
    · rw [if_neg hb] at q1; exact q1.elim
  | _ => exact q1.elim
theorem d_lcR {fuel : Nat} {elt tg iter : Expr} {ifs : List Expr} {scope : Scope} {own : List (Str × Nat)} {sl : D → Env → Option Env} {G : TG} (hc : X.calm = true) (hN : X.N.Nodup) (hi : PE X iter (cE X.K L W P f)) (ok : BlkOk X.N X.env.scope scope own)
    (hG : TgOk X.K L P G sl (own.map (·.2))) (hvs : ∀ i ∈ own.map (·.2), free P i)
    (hg : ∀ (s : Shared) (H : Hp) (C : Addr) (cl : List (Str × Addr)) (fp : List Addr), PG (X.blk s H scope (compEnvC scope cl C X.env) fp) tg G)
    (ht : ∀ (s : Shared) (H : Hp) (C : Addr) (cl : List (Str × Addr)) (fp : List Addr), PTs (X.blk s H scope (compEnvC scope cl C X.env) fp) ifs (cT X.K L (fun _ _ _ _ => False) P ft))
    (he : ∀ (s : Shared) (H : Hp) (C : Addr) (cl : List (Str × Addr)) (fp : List Addr), PE (X.blk s H scope (compEnvC scope cl C X.env) fp) elt (cE X.K L (fun _ _ _ _ => False) P fe)) (hs : ∀ x, foldedSetIterable iter X.env x = pure x := by intro _; rfl) :
    PE X (.ListComp elt [⟨tg, iter, ifs, 0⟩] scope pos) (cE X.K L W P (lcR fuel f sl (own.map (·.2)) ft fe)) :=
  PEw (pe_lc hc hN (pi_any hi) ok hg ht he hs) fun _ _ _ h => lcR_of hG hvs h
end
end DL
set_option Elab.async false
set_option linter.all false
set_option maxRecDepth 100000
set_option autoImplicit false
set_option maxHeartbeats 2000000
namespace DL
open PySem PySem.Spec L2 PyProof.Rows
/-! ### x, *ys = a list -/
def gStar (K : PySem.W.Frag) (t : TGs) : TG := fun v σ H Q => ∃ a x xs, v = .ref a ∧ SqL K H a (x :: xs) ∧ xs.length ≤ 16000 ∧ ∀ p, H p = none → t [x, .ref p] σ (upd H p (.lst xs)) Q
section
variable {X : Cx} {pos p0 : Pos} {ex ey : Expr} {k : Nat} {t : TGs}
theorem pg_star (hc : X.calm = true) (h : PGs X [ex, ey] t) (hn : assignEach [ex, .Starred ey p0] X.env = [(false, assign ex X.env), (true, assign ey X.env)] := by rfl) (hm : assignEach [ex, ey] X.env = [(false, assign ex X.env), (false, assign ey X.env)] := by rfl) :
    PG X (.Tuple [ex, .Starred ey p0] k pos) (gStar X.K t) := by
  refine ⟨fun pins s σ H v u Q I r hw => ?_⟩
  obtain ⟨a, x, xs, e1, hq, hl, hw⟩ := hw
  subst e1
  cases r
  obtain ⟨its, rv, pl, hz⟩ := I.list hq
  cases rv with
  | cons r0 rs =>
    rename_i u0 us
    have hh : X.A.handled = none := I.ok.hd hc
    have hl0 := pl.isList
    have hlt : a ≠ s.heap.objs.size := by obtain ⟨o, ho, _⟩ := hl0; exact Nat.ne_of_lt (Heap.lt_size ho)
    have hul : us.length = xs.length := rs.length.symm
    rw [PyProof.Rows.assign_Tuple]
    refine wpAny_bind (wpAny_standAt ?_)
    unfold unpack
    rw [hn]
    show wpAny _ _ (holding [_] (unpackItems (.ref a) 2 (some 1)) >>= _) _ _ _
    refine wpAny_bind (wpAny_holding ?_)
    unfold unpackItems
    refine wpAny_bind ?_
    unfold notIterableAtAll
    refine wpAny_bind (wpAny_specialOf hl0.typeIs slot_list_iter.lookup ?_)
    refine wpAny_pure ?_
    simp only [Bool.false_eq_true, if_false]
    refine wpAny_bind (wpAny_holding (wpAny_pyIter_list hl0 ?_))
    refine wpAny_bind (wpAny_holding (PySem.W.kun_draw hlt 1 0 _ _ ⟨_, Heap.get?_push_size _ rfl, rfl, rfl⟩ (hl0.push _) (by simp) fun h₁ hit₁ hs₁ => ?_))
    have hl₁ : h₁.IsList a (u0 :: us).toArray := (hl0.push _).extBut hs₁.extBut hlt
    rw [Nat.zero_add] at hit₁
    have hit₁' := hit₁
    obtain ⟨oi, hoi, _⟩ := hit₁'
    have hl₁' := hl₁
    obtain ⟨ol, hol, _⟩ := hl₁'
    rw [List.drop_zero]
    have e1 : (u0 :: us).toArray.toList.take 1 = [u0] := rfl
    rw [e1, if_neg (by simp)]
    have hsz : (u0 :: us).toArray.size ≤ sizeLine := by
      rw [List.size_toArray, List.length_cons, hul, sizeLine_eq]; omega
    refine wpAny_bind (wpAny_holding (PySem.W.kun_collect (s := { s with heap := h₁ }) (T := "list_iterator") (.inr (.inr (.inl rfl))) (Walks.list (A := X.A.in1) hh s.heap.objs.size a hlt (u0 :: us).toArray) (fun j u st => st.1.typeIs) (k := 1) (by simp) ⟨hit₁, hl₁⟩ (Heap.lt_size hoi) (Heap.lt_size hol) (fun h₂ tk hk => ?_) hsz))
    have e2 : (u0 :: us).toArray.toList.drop 1 = us := rfl
    rw [e2]
    show wpAny _ _ (if us.length < 0 then _ else _) _ _ _
    rw [if_neg (by omega)]
    show wpAny _ _ (newList (us.take (us.length - 0)) >>= fun d => pure ([u0] ++ [d] ++ us.drop (us.length - 0))) _ _ _
    rw [Nat.sub_zero, List.take_length, List.drop_length]
    have hx : ∀ b o, s.heap.get? b = some o → h₂.get? b = some o := fun b o e => hk b o (Nat.ne_of_lt (Heap.lt_size e)) (hs₁.extBut b o (Nat.ne_of_lt (Heap.lt_size e)) (Heap.get?_push_of_some _ e))
    have I1 : Inv X pins σ H { s with heap := h₂, toks := tk } := I.kept (t' := tk) hx
    refine wpAny_bind (PySem.wpAny_newList ?_)
    refine wpAny_pure ?_
    have I2 := I1.lnew (t' := tk) rs (by rw [sizeLine_eq]; omega)
    have hw2 := hw _ I1.fresh
    have q := h.run pins _ σ _ [x, .ref h₂.objs.size] [u0, .ref h₂.objs.size] Q I2 (.cons r0 (.cons rfl .nil)) hw2
    rw [hm] at q
    exact q
end
def starG (i j : Nat) : DG := fun d r st =>
  match listAt st d with
  | some (x :: xs) => if decide (xs.length ≤ 16000) = true then .val ((r.set i (some x)).set j (some (.lst xs))) st else .bad
  | _ => .bad
section
variable {X : Cx} {L : Str → Addr} {W : WX} {P : Option XP} {pos p0 : Pos} {ex ey : Expr} {k i j : Nat}
theorem star_of {K : PySem.W.Frag} (hi : free P i) (hj : free P j) {v : V} {s : L2.St} {H : Hp} {Q : L2.St → Hp → Prop} (h : cGt K L W P (starG i j) v s H Q) : gStar K (gNames [i, j]) v s H Q := by
  obtain ⟨F, m, st, r, d, w, hr, rd, q⟩ := h
  unfold starG at q
  cases el : listAt st d with
  | none => rw [el] at q; exact q.elim
  | some ds =>
    rw [el] at q
    cases ds with
    | nil => exact q.elim
    | cons x xs =>
      dsimp only at q
      by_cases c : xs.length ≤ 16000
      · rw [if_pos (decide_eq_true c)] at q
        obtain ⟨a, vs, rfl, ha, rs⟩ := listAt_rep w rd el
        simp only [Reps] at rs
        obtain ⟨v0, vr, rfl, r0, rr⟩ := rs
        refine ⟨a, v0, vr, rfl, SqL.of ha, by rw [Reps.length rr]; exact c, fun p hp => ?_⟩
        have ex := Ext.froze (m := m) (o := .lst vr) (w.new_F hp) hp
        have w2 := w.froze (o := .lst vr) hp
        have r0' : Rep K (upd F p (.lst vr)) m x v0 := Rep.mono ex.ef ex.em _ _ r0
        have rr' : Reps K (upd F p (.lst vr)) m xs vr := Reps.mono ex.ef ex.em _ _ rr
        have hr2 := hr.ext ex
        have rp : Rep K (upd F p (.lst vr)) m (.lst xs) (.ref p) := ⟨p, vr, rfl, upd_same, rr'⟩
        refine names_of (is := [i, j]) (ds := [x, .lst xs]) (fun z hz => ?_) ⟨v0, [.ref p], rfl, r0', .ref p, [], rfl, rp, rfl⟩ hr2 rfl fun s1 h1 => q _ m _ s1 ex w2 h1
        simp only [List.mem_cons, List.not_mem_nil, or_false] at hz
        rcases hz with rfl | rfl
        · exact hi
        · exact hj
      · rw [if_neg (by simpa using c)] at q
        exact q.elim
theorem d_starG (hc : X.calm = true) (h : PGs X [ex, ey] (gNames [i, j])) (hi : free P i) (hj : free P j) (hn : assignEach [ex, .Starred ey p0] X.env = [(false, assign ex X.env), (true, assign ey X.env)] := by rfl) (hm : assignEach [ex, ey] X.env = [(false, assign ex X.env), (false, assign ey X.env)] := by rfl) :
    PG X (.Tuple [ex, .Starred ey p0] k pos) (cGt X.K L W P (starG i j)) := PGw (pg_star hc h hn hm) fun _ _ _ _ q => star_of hi hj q
end
@[simp] theorem starG_lst (i j : Nat) (x : D) (xs : List D) (r : Env) (st : Sto) : starG i j (.lst (x :: xs)) r st = if decide (xs.length ≤ 16000) = true then .val ((r.set i (some x)).set j (some (.lst xs))) st else .bad := Eq.trans rfl rfl
/-! ### f'..' -/
def fmtD : Sto → D → Option D := fun _ x =>
  match x with
  | .str s => if big s.length = true then some (.str s) else none
  | .int i => if decide (i.natAbs.log2 < 1920) = true then some (.str (toString i)) else none
  | _ => none
def jsE : List (DX D) → Str → DX D
  | [], acc => fun _ st => .val (.str acc) st
  | f :: fs, acc => fun r st => (f r st).bind fun d st1 =>
    match d with
    | .str y => if big (acc ++ y).length = true then jsE fs (acc ++ y) r st1 else .bad
    | _ => .bad
section
variable {X : Cx} {L : Str → Addr} {W : WX} {P : Option XP} {pos : Pos} {f : DX D}
theorem d_fmt {e : Expr} (h : PE X e (cE X.K L W P f)) : PE X (.FormattedValue e (-1) none pos) (cE X.K L W P (un fmtD f)) := by
  refine PEw (pe_fmt h) fun s H Q ⟨F, m, st, rr, w, hr, q⟩ => ?_
  refine stepG w hr q fun x st1 F1 m1 H1 v _ w1 _ rx q1 => ?_
  obtain ⟨y, ey, q1⟩ := ofOpt_sat q1
  unfold fmtD at ey
  cases x with
  | str z =>
    dsimp only at ey
    by_cases c : big z.length = true
    · rw [if_pos c] at ey
      cases ey
      cases (show v = .str z from rx)
      exact .inl ⟨z, rfl, big_line c, q1 F1 m1 H1 _ .refl w1 rfl⟩
    · rw [if_neg c] at ey; cases ey
  | int z =>
    dsimp only at ey
    by_cases c : z.natAbs.log2 < 1920
    · rw [if_pos (decide_eq_true c)] at ey
      cases ey
      cases (show v = .int z from rx)
      exact .inr ⟨z, rfl, c, q1 F1 m1 H1 _ .refl w1 rfl⟩
    · rw [if_neg (by simpa using c)] at ey; cases ey
  | _ => cases ey
theorem js_of : ∀ (fs : List (DX D)) (acc : Str) (s : L2.St) (H : Hp) (Q : VK), cE X.K L W P (jsE fs acc) s H Q → tJs (fs.map fun f => cE X.K L W P f) acc s H fun out H1 => Q (.str out) H1
  | [], acc, s, H, Q, ⟨F, m, st, r, w, hr, q⟩ => q F m H _ .refl w rfl
  | f :: fs, acc, s, H, Q, ⟨F, m, st, r, w, hr, q⟩ => by
    refine stepG w hr q fun x st1 F1 m1 H1 v _ w1 r1 rx q1 => ?_
    cases x with
    | str y =>
      dsimp only at q1
      by_cases c : big (acc ++ y).length = true
      · rw [if_pos c] at q1
        exact ⟨y, rx, big_line c, js_of fs (acc ++ y) s H1 Q ⟨F1, m1, st1, r, w1, r1, q1⟩⟩
      · rw [if_neg c] at q1; exact q1.elim
    | _ => exact q1.elim
theorem d_js {v1 v2 : Expr} {rest : List Expr} {fs : List (DX D)} (h : PJ X (v1 :: v2 :: rest) (fs.map fun f => cE X.K L W P f)) : PE X (.JoinedStr (v1 :: v2 :: rest) pos) (cE X.K L W P (jsE fs Str.empty)) :=
  PEw (pe_joined h) fun s H Q q => js_of fs Str.empty s H Q q
theorem d_js1 {e : Expr} (h : PE X e (cE X.K L W P f)) : PE X (.JoinedStr [e] pos) (cE X.K L W P f) := pe_joined1 h
end
def js1 (fs : List (DX D)) (acc : Str) (r : Env) (o : O D) : O D :=
  match o with
  | .val (.str y) st1 => if big (acc ++ y).length = true then jsE fs (acc ++ y) r st1 else .bad
  | .val _ _ => .bad
  | .exc e st1 => .exc e st1
  | .bad => .bad
@[simp] theorem js1_0 (fs : List (DX D)) (acc y : Str) (r : Env) (st1 : Sto) : js1 fs acc r (.val (.str y) st1) = if big (acc ++ y).length = true then jsE fs (acc ++ y) r st1 else .bad := Eq.trans rfl rfl
@[simp] theorem js1_1 (fs : List (DX D)) (acc : Str) (r : Env) (e : Ex) (st1 : Sto) : js1 fs acc r (.exc e st1) = .exc e st1 := Eq.trans rfl rfl
@[simp] theorem jsE_nil (acc : Str) (r : Env) (st : Sto) : jsE [] acc r st = .val (.str acc) st := Eq.trans rfl rfl
@[simp] theorem jsE_cons (f : DX D) (fs : List (DX D)) (acc : Str) (r : Env) (st : Sto) : jsE (f :: fs) acc r st = js1 fs acc r (f r st) := by
  show O.bind (f r st) _ = _
  cases f r st with
  | val d st1 => cases d <;> rfl
  | _ => rfl
@[simp] theorem fmt_str (st : Sto) (s : Str) : fmtD st (.str s) = if big s.length = true then some (.str s) else none := Eq.trans rfl rfl
@[simp] theorem fmt_int (st : Sto) (i : Int) : fmtD st (.int i) = if decide (i.natAbs.log2 < 1920) = true then some (.str (toString i)) else none := Eq.trans rfl rfl
/-! ### x += e, of numbers -/
section
variable {X : Cx} {K : PySem.W.Frag} {L : Str → Addr} {W : WX} {P : Option XP} {pos : Pos} {f : DX D}
theorem r_ipadd : Ref2 K L (ipI fun i j => i + j) addI := Ref2.int0 (g := fun i j => .int (i + j)) (g' := fun i j => .int (i + j)) fun _ _ _ _ => rfl
theorem r_ipsub : Ref2 K L (ipI fun i j => i - j) subD := Ref2.int0 (g := fun i j => .int (i - j)) (g' := fun i j => .int (i - j)) fun _ _ _ _ => rfl
end
def aug2 (i : Nat) (r : Env) (o : Option D) (st : Sto) : OS :=
  match o with
  | some z => .nx (r.set i (some z)) st
  | none => .bad
@[simp] theorem aug2_0 (i : Nat) (r : Env) (z : D) (st : Sto) : aug2 i r (some z) st = .nx (r.set i (some z)) st := Eq.trans rfl rfl
def aug1 (i : Nat) (g : Sto → D → D → Option D) (x : D) (r : Env) (o : O D) : OS :=
  match o with
  | .val y st1 => aug2 i r (g st1 x y) st1
  | .exc e st1 => .exc e r st1
  | .bad => .bad
@[simp] theorem aug1_0 (i : Nat) (g : Sto → D → D → Option D) (x : D) (r : Env) (y : D) (st1 : Sto) : aug1 i g x r (.val y st1) = aug2 i r (g st1 x y) st1 := Eq.trans rfl rfl
@[simp] theorem aug1_1 (i : Nat) (g : Sto → D → D → Option D) (x : D) (r : Env) (e : Ex) (st1 : Sto) : aug1 i g x r (.exc e st1) = .exc e r st1 := Eq.trans rfl rfl
def aug0 (i : Nat) (g : Sto → D → D → Option D) (f : DX D) (r : Env) (st : Sto) (o : Option (Option D)) : OS :=
  match o with
  | some (some x) => aug1 i g x r (f r st)
  | _ => .bad
@[simp] theorem aug0_0 (i : Nat) (g : Sto → D → D → Option D) (f : DX D) (r : Env) (st : Sto) (x : D) : aug0 i g f r st (some (some x)) = aug1 i g x r (f r st) := Eq.trans rfl rfl
@[simp] theorem augS_ap (i : Nat) (g : Sto → D → D → Option D) (f : DX D) (r : Env) (st : Sto) : augS i g f r st = aug0 i g f r st (r[i]?) := by
  unfold augS var aug0
  cases e : r[i]? with
  | none => rfl
  | some o =>
    cases o with
    | none => rfl
    | some x =>
      show O.to (f r st) r _ = aug1 i g x r (f r st)
      unfold aug1
      cases f r st with
      | val y st1 =>
        show O.to (ofOpt (g st1 x y) st1) r _ = aug2 i r (g st1 x y) st1
        cases g st1 x y <;> rfl
      | _ => rfl
@[simp] theorem addI_int (st : Sto) (i j : Int) : addI st (.int i) (.int j) = some (.int (i + j)) := Eq.trans rfl rfl
end DL
set_option autoImplicit false
namespace SH
open DL
/-- the table of exceptions and what is asked of them: the law's own -/
class Tabs where
  tab : ExTab
  asks : List CD
end SH
set_option Elab.async false
set_option linter.all false
set_option maxRecDepth 100000
set_option autoImplicit false
set_option maxHeartbeats 4000000
namespace SH
open PySem PySem.Spec L2 DL
def N_is_whole : List Str := ["thing"]
def b_is_whole : DS :=
  (retS (andV (isE [.int] (var 0)) (notV (isE [.bl] (var 0)))))
def c_is_whole : List D → Sto → O D := runB 1 (b_is_whole)
theorem e_is_whole (x0 : D) (st : Sto) : c_is_whole [x0] st = finB (b_is_whole [some x0] st) := (runB_ap 1 (b_is_whole) [x0] st).trans (congrArg (fun r => finB (b_is_whole r st)) (show [x0].map some ++ List.replicate (1 - [x0].length) none = [some x0] from rfl))

def N_is_from : List Str := ["thing", "low", "high"]
def b_is_from : DS :=
  (retS (andV (callE (arity 1 c_is_whole) (consA (var 0) nilA)) (chain leD leD (var 1) (var 0) (var 2))))
def c_is_from : List D → Sto → O D := runB 3 (b_is_from)
theorem e_is_from (x0 x1 x2 : D) (st : Sto) : c_is_from [x0, x1, x2] st = finB (b_is_from [some x0, some x1, some x2] st) := (runB_ap 3 (b_is_from) [x0, x1, x2] st).trans (congrArg (fun r => finB (b_is_from r st)) (show [x0, x1, x2].map some ++ List.replicate (3 - [x0, x1, x2].length) none = [some x0, some x1, some x2] from rfl))

def N_is_row_of : List Str := ["thing", "low", "high", "part"]
def b_is_row_of : DS :=
  (retS (andV (isE [.tup] (var 0)) (callV allD (consA (lcE (itemsI (var 0)) (slot1 3) [3] yesT (callE (arity 3 c_is_from) (consA (var 3) (consA (var 1) (consA (var 2) nilA))))) nilA))))
def c_is_row_of : List D → Sto → O D := runB 4 (b_is_row_of)
theorem e_is_row_of (x0 x1 x2 : D) (st : Sto) : c_is_row_of [x0, x1, x2] st = finB (b_is_row_of [some x0, some x1, some x2, none] st) := (runB_ap 4 (b_is_row_of) [x0, x1, x2] st).trans (congrArg (fun r => finB (b_is_row_of r st)) (show [x0, x1, x2].map some ++ List.replicate (4 - [x0, x1, x2].length) none = [some x0, some x1, some x2, none] from rfl))

def N_measure : List Str := ["one", "other"]
def b_measure : DS :=
  (seqS (whileF (fun (r : DL.Env) (_ : Sto) => match r[1]?.join with | some (D.int i) => i.natAbs + 1 | _ => 0) (asT (bin gtD (var 1) (con (.int 0)))) (parS 0 1 (consA (var 1) (consA (bin modD (var 0) (var 1)) nilA))))
  (retS (var 0)))
def c_measure : List D → Sto → O D := runB 2 (b_measure)
theorem e_measure (x0 x1 : D) (st : Sto) : c_measure [x0, x1] st = finB (b_measure [some x0, some x1] st) := (runB_ap 2 (b_measure) [x0, x1] st).trans (congrArg (fun r => finB (b_measure r st)) (show [x0, x1].map some ++ List.replicate (2 - [x0, x1].length) none = [some x0, some x1] from rfl))

def N_multiple : List Str := ["some", "found", "number"]
def b_multiple : DS :=
  (seqS (asgS (con (.int 1)) (nameG 1))
  (seqS (forS (itemsI (var 0)) (nameG 2) (asgS (bin mulD (bin fdivD (var 1) (callE (arity 2 c_measure) (consA (var 1) (consA (var 2) nilA)))) (var 2)) (nameG 1)))
  (retS (var 1))))
def c_multiple : List D → Sto → O D := runB 3 (b_multiple)
theorem e_multiple (x0 : D) (st : Sto) : c_multiple [x0] st = finB (b_multiple [some x0, none, none] st) := (runB_ap 3 (b_multiple) [x0] st).trans (congrArg (fun r => finB (b_multiple r st)) (show [x0].map some ++ List.replicate (3 - [x0].length) none = [some x0, none, none] from rfl))

def N_is_ring : List Str := ["cellar"]
def b_is_ring : DS :=
  (retS (bin eqD (bin ixD (var 0) (con (.int 0))) (con (.str (PySem.Str.ofString "ring")))))
def c_is_ring : List D → Sto → O D := runB 1 (b_is_ring)
theorem e_is_ring (x0 : D) (st : Sto) : c_is_ring [x0] st = finB (b_is_ring [some x0] st) := (runB_ap 1 (b_is_ring) [x0] st).trans (congrArg (fun r => finB (b_is_ring r st)) (show [x0].map some ++ List.replicate (1 - [x0].length) none = [some x0] from rfl))

def N_ends : List Str := ["cellar", "ladle"]
def b_ends : DS :=
  (retS (tupE (consA (var 1) (consA (bin modD (bin addD (var 1) (con (.int 1))) (callV lenD (consA (bin ixD (var 0) (con (.int 1))) nilA))) nilA))))
def c_ends : List D → Sto → O D := runB 2 (b_ends)
theorem e_ends (x0 x1 : D) (st : Sto) : c_ends [x0, x1] st = finB (b_ends [some x0, some x1] st) := (runB_ap 2 (b_ends) [x0, x1] st).trans (congrArg (fun r => finB (b_ends r st)) (show [x0, x1].map some ++ List.replicate (2 - [x0, x1].length) none = [some x0, some x1] from rfl))

def N_counts_fit : List Str := ["shape", "sizes", "ladles"]
def b_counts_fit : DS :=
  (seqS (ifS (asT (bin eqD (var 0) (con (.str (PySem.Str.ofString "ring"))))) (retS (andV (chain leD leD (con (.int 2)) (callV lenD (consA (var 1) nilA)) (con (.int 6))) (bin eqD (callV lenD (consA (var 2) nilA)) (callV lenD (consA (var 1) nilA))))) nextS)
  (retS (andV (chain leD leD (con (.int 1)) (callV lenD (consA (var 1) nilA)) (con (.int 12))) (bin eqD (callV lenD (consA (var 2) nilA)) (bin subD (callV lenD (consA (var 1) nilA)) (con (.int 1)))))))
def c_counts_fit : List D → Sto → O D := runB 3 (b_counts_fit)
theorem e_counts_fit (x0 x1 x2 : D) (st : Sto) : c_counts_fit [x0, x1, x2] st = finB (b_counts_fit [some x0, some x1, some x2] st) := (runB_ap 3 (b_counts_fit) [x0, x1, x2] st).trans (congrArg (fun r => finB (b_counts_fit r st)) (show [x0, x1, x2].map some ++ List.replicate (3 - [x0, x1, x2].length) none = [some x0, some x1, some x2] from rfl))

def N_ladles_fit : List Str := ["cellar", "ladle", "size", "vessel"]
def b_ladles_fit : DS :=
  (seqS (forS (enumI (consA (bin ixD (var 0) (con (.int 2))) nilA)) (tupG [1, 2]) (ifS (asT (bin neD (lcE (itemsI (callE (arity 2 c_ends) (consA (var 0) (consA (var 1) nilA)))) (slot1 3) [3] (asT (bin ltD (bin ixD (bin ixD (var 0) (con (.int 1))) (var 3)) (var 2))) (var 3)) (lstE nilA))) (retS (con (.bl false))) nextS))
  (retS (orV (notV (callE (arity 1 c_is_ring) (consA (var 0) nilA))) (bin leD (callE (arity 1 c_multiple) (consA (bin ixD (var 0) (con (.int 2))) nilA)) (con (.int 840))))))
def c_ladles_fit : List D → Sto → O D := runB 4 (b_ladles_fit)
theorem e_ladles_fit (x0 : D) (st : Sto) : c_ladles_fit [x0] st = finB (b_ladles_fit [some x0, none, none, none] st) := (runB_ap 4 (b_ladles_fit) [x0] st).trans (congrArg (fun r => finB (b_ladles_fit r st)) (show [x0].map some ++ List.replicate (4 - [x0].length) none = [some x0, none, none, none] from rfl))

def N_is_cellar : List Str := ["thing", "shape", "sizes", "ladles"]
def b_is_cellar : DS :=
  (seqS (ifS (orT (notT (asT (isE [.tup] (var 0)))) (asT (bin neD (callV lenD (consA (var 0) nilA)) (con (.int 3))))) (retS (con (.bl false))) nextS)
  (seqS (asgS (var 0) (tupG [1, 2, 3]))
  (seqS (ifS (orT (notT (asT (isE [.str] (var 1)))) (asT (bin notInD (var 1) (tupE (consA (con (.str (PySem.Str.ofString "row"))) (consA (con (.str (PySem.Str.ofString "ring"))) nilA)))))) (retS (con (.bl false))) nextS)
  (seqS (ifS (orT (notT (asT (callE (arity 3 c_is_row_of) (consA (var 2) (consA (con (.int 1)) (consA (con (.int 1000000000000)) nilA)))))) (notT (asT (callE (arity 3 c_is_row_of) (consA (var 3) (consA (con (.int 1)) (consA (con (.int 500000000000)) nilA))))))) (retS (con (.bl false))) nextS)
  (retS (andV (callE (arity 3 c_counts_fit) (consA (var 1) (consA (var 2) (consA (var 3) nilA)))) (callE (arity 1 c_ladles_fit) (consA (var 0) nilA))))))))
def c_is_cellar : List D → Sto → O D := runB 4 (b_is_cellar)
theorem e_is_cellar (x0 : D) (st : Sto) : c_is_cellar [x0] st = finB (b_is_cellar [some x0, none, none, none] st) := (runB_ap 4 (b_is_cellar) [x0] st).trans (congrArg (fun r => finB (b_is_cellar r st)) (show [x0].map some ++ List.replicate (4 - [x0].length) none = [some x0, none, none, none] from rfl))

def N_is_fill : List Str := ["cellar", "thing", "part", "size"]
def b_is_fill : DS :=
  (seqS (ifS (orT (notT (asT (isE [.tup] (var 1)))) (asT (bin neD (callV lenD (consA (var 1) nilA)) (callV lenD (consA (bin ixD (var 0) (con (.int 1))) nilA))))) (retS (con (.bl false))) nextS)
  (retS (callV allD (consA (lcE (zipI (consA (var 1) (consA (bin ixD (var 0) (con (.int 1))) nilA))) (slot2 2 3) [2, 3] yesT (callE (arity 3 c_is_from) (consA (var 2) (consA (con (.int 0)) (consA (var 3) nilA))))) nilA))))
def c_is_fill : List D → Sto → O D := runB 4 (b_is_fill)
theorem e_is_fill (x0 x1 : D) (st : Sto) : c_is_fill [x0, x1] st = finB (b_is_fill [some x0, some x1, none, none] st) := (runB_ap 4 (b_is_fill) [x0, x1] st).trans (congrArg (fun r => finB (b_is_fill r st)) (show [x0, x1].map some ++ List.replicate (4 - [x0, x1].length) none = [some x0, some x1, none, none] from rfl))
end SH
set_option Elab.async false
set_option linter.all false
set_option maxRecDepth 100000
set_option autoImplicit false
set_option maxHeartbeats 4000000
namespace SH
open PySem PySem.Spec L2 DL
def N_numbers_text : List Str := ["some", "number"]
def b_numbers_text : DS :=
  (retS (methE chkS joinM (con (.str (PySem.Str.ofString " "))) (consA (lcE (itemsI (var 0)) (slot1 1) [1] yesT (callV strD (consA (var 1) nilA))) nilA)))
def c_numbers_text : List D → Sto → O D := runB 2 (b_numbers_text)
theorem e_numbers_text (x0 : D) (st : Sto) : c_numbers_text [x0] st = finB (b_numbers_text [some x0, none] st) := (runB_ap 2 (b_numbers_text) [x0] st).trans (congrArg (fun r => finB (b_numbers_text r st)) (show [x0].map some ++ List.replicate (2 - [x0].length) none = [some x0, none] from rfl))

def N_fill_text : List Str := ["fill"]
def b_fill_text : DS :=
  (retS (callE (arity 1 c_numbers_text) (consA (var 0) nilA)))
def c_fill_text : List D → Sto → O D := runB 1 (b_fill_text)
theorem e_fill_text (x0 : D) (st : Sto) : c_fill_text [x0] st = finB (b_fill_text [some x0] st) := (runB_ap 1 (b_fill_text) [x0] st).trans (congrArg (fun r => finB (b_fill_text r st)) (show [x0].map some ++ List.replicate (1 - [x0].length) none = [some x0] from rfl))

def N_number_told : List Str := ["word"]
def b_number_told : DS :=
  (seqS (ifS (orT (notT (asT (chain leD leD (con (.int 1)) (callV lenD (consA (var 0) nilA)) (con (.int 13))))) (orT (asT (bin neD (methE chkS stripM (var 0) (consA (con (.str (PySem.Str.ofString "0123456789"))) nilA)) (con (.str (PySem.Str.ofString ""))))) (andT (asT (bin gtD (callV lenD (consA (var 0) nilA)) (con (.int 1)))) (asT (bin eqD (bin ixD (var 0) (con (.int 0))) (con (.str (PySem.Str.ofString "0")))))))) (raiseS (ex0 "NoText")) nextS)
  (retS (callV intX (consA (var 0) nilA))))
def c_number_told : List D → Sto → O D := runB 1 (b_number_told)
theorem e_number_told (x0 : D) (st : Sto) : c_number_told [x0] st = finB (b_number_told [some x0] st) := (runB_ap 1 (b_number_told) [x0] st).trans (congrArg (fun r => finB (b_number_told r st)) (show [x0].map some ++ List.replicate (1 - [x0].length) none = [some x0] from rfl))

def N_numbers_told : List Str := ["words", "word"]
def b_numbers_told : DS :=
  (retS (callV tupleD (consA (lcE (itemsI (var 0)) (slot1 1) [1] yesT (callE (arity 1 c_number_told) (consA (var 1) nilA))) nilA)))
def c_numbers_told : List D → Sto → O D := runB 2 (b_numbers_told)
theorem e_numbers_told (x0 : D) (st : Sto) : c_numbers_told [x0] st = finB (b_numbers_told [some x0, none] st) := (runB_ap 2 (b_numbers_told) [x0] st).trans (congrArg (fun r => finB (b_numbers_told r st)) (show [x0].map some ++ List.replicate (2 - [x0].length) none = [some x0, none] from rfl))

def N_read_fill : List Str := ["cellar", "thing", "found"]
def b_read_fill : DS :=
  (seqS (ifS (notT (asT (isE [.str] (var 1)))) (raiseS (ex0 "NoText")) nextS)
  (seqS (asgS (callE (arity 1 c_numbers_told) (consA (methE chkS splitM (var 1) (consA (con (.str (PySem.Str.ofString " "))) nilA)) nilA)) (nameG 2))
  (seqS (ifS (notT (asT (callE (arity 2 c_is_fill) (consA (var 0) (consA (var 2) nilA))))) (raiseS (ex0 "NoText")) nextS)
  (retS (var 2)))))
def c_read_fill : List D → Sto → O D := runB 3 (b_read_fill)
theorem e_read_fill (x0 x1 : D) (st : Sto) : c_read_fill [x0, x1] st = finB (b_read_fill [some x0, some x1, none] st) := (runB_ap 3 (b_read_fill) [x0, x1] st).trans (congrArg (fun r => finB (b_read_fill r st)) (show [x0, x1].map some ++ List.replicate (3 - [x0, x1].length) none = [some x0, some x1, none] from rfl))
end SH
set_option Elab.async false
set_option linter.all false
set_option maxRecDepth 100000
set_option autoImplicit false
set_option maxHeartbeats 4000000
namespace SH
open PySem PySem.Spec L2 DL
def N_stream : List Str := ["script", "own", "cell"]
def b_stream : DS :=
  (retS (lstS (consA (lcE (itemsI (sliceE (var 0) noB (intB (con (.int 63))))) (slot1 2) [2] yesT (callV absD (consA (var 2) nilA))) (consA (con (.int 0)) (consA (con (.int 0)) (consA (var 1) nilA))))))
def c_stream : List D → Sto → O D := runB 3 (b_stream)
theorem e_stream (x0 x1 : D) (st : Sto) : c_stream [x0, x1] st = finB (b_stream [some x0, some x1, none] st) := (runB_ap 3 (b_stream) [x0, x1] st).trans (congrArg (fun r => finB (b_stream r st)) (show [x0, x1].map some ++ List.replicate (3 - [x0, x1].length) none = [some x0, some x1, none] from rfl))

def N_take : List Str := ["stream", "below", "cells", "at", "rest", "turn", "number"]
def b_take : DS :=
  (seqS (asgS (var 0) (lstG [2, 3, 4, 5]))
  (seqS (asgS (bin addD (var 5) (con (.int 1))) (subG (var 0) (con (.int 3))))
  (seqS (ifS (andT (asT (bin eqD (var 4) (con (.int 0)))) (asT (bin ltD (var 3) (callV lenD (consA (var 2) nilA))))) (seqS (asgS (bin addD (var 3) (con (.int 1))) (subG (var 0) (con (.int 1))))
  (asgS (bin mulD (bin ixD (var 2) (var 3)) (callV intX (consA (bin geD (bin ixD (var 2) (var 3)) (bin powD (con (.int 10)) (con (.int 18)))) nilA))) (nameG 4))) nextS)
  (seqS (asgS (bin fdivD (var 4) (var 1)) (subG (var 0) (con (.int 2))))
  (seqS (ifS (asT (bin gtD (var 4) (con (.int 0)))) (retS (bin modD (var 4) (var 1))) nextS)
  (seqS (asgS (bin modD (bin powD (bin addD (bin mulD (var 5) (con (.int 48271))) (con (.int 12345))) (con (.int 3))) (con (.int 2305843009213693951))) (nameG 6))
  (seqS (ifS (asT (bin neD (var 2) (lstE nilA))) (asgS (bin addD (var 6) (bin mulD (bin modD (bin ixD (var 2) (bin modD (bin mulD (var 5) (con (.int 7))) (callV lenD (consA (var 2) nilA)))) (con (.int 2305843009213693951))) (bin addD (var 5) (con (.int 3))))) (nameG 6)) nextS)
  (seqS (asgS (bin modD (var 6) (con (.int 2305843009213693951))) (nameG 6))
  (retS (bin modD (bin fdivD (bin modD (bin mulD (var 6) (var 6)) (con (.int 2305843009213693951))) (con (.int 16))) (var 1)))))))))))
def c_take : List D → Sto → O D := runB 7 (b_take)
theorem e_take (x0 x1 : D) (st : Sto) : c_take [x0, x1] st = finB (b_take [some x0, some x1, none, none, none, none, none] st) := (runB_ap 7 (b_take) [x0, x1] st).trans (congrArg (fun r => finB (b_take r st)) (show [x0, x1].map some ++ List.replicate (7 - [x0, x1].length) none = [some x0, some x1, none, none, none, none, none] from rfl))

def N_far : List Str := ["stream", "most", "below", "found"]
def b_far : DS :=
  (seqS (asgS (callV min2D (consA (var 1) (consA (bin ixD (lstE (consA (var 1) (consA (con (.int 10)) (consA (con (.int 1000)) (consA (bin powD (con (.int 10)) (con (.int 9))) nilA))))) (callE (arity 2 c_take) (consA (var 0) (consA (con (.int 4)) nilA)))) nilA))) (nameG 2))
  (seqS (asgS (callE (arity 2 c_take) (consA (var 0) (consA (var 2) nilA))) (nameG 3))
  (retS (bin ixD (lstE (consA (var 3) (consA (bin subD (bin subD (var 1) (con (.int 1))) (var 3)) nilA))) (callV intX (consA (bin eqD (callE (arity 2 c_take) (consA (var 0) (consA (con (.int 4)) nilA))) (con (.int 0))) nilA))))))
def c_far : List D → Sto → O D := runB 4 (b_far)
theorem e_far (x0 x1 : D) (st : Sto) : c_far [x0, x1] st = finB (b_far [some x0, some x1, none, none] st) := (runB_ap 4 (b_far) [x0, x1] st).trans (congrArg (fun r => finB (b_far r st)) (show [x0, x1].map some ++ List.replicate (4 - [x0, x1].length) none = [some x0, some x1, none, none] from rfl))

def N_lcell : List Str := ["stream", "ring", "many", "wheels", "ladles", "k", "sizes", "vessel", "near", "least"]
def b_lcell : DS :=
  (seqS (asgS (bin eqD (callE (arity 2 c_take) (consA (var 0) (consA (con (.int 3)) nilA))) (con (.int 0))) (nameG 1))
  (seqS (asgS (bin ixD (lstE (consA (bin addD (con (.int 1)) (callE (arity 2 c_take) (consA (var 0) (consA (con (.int 12)) nilA)))) (consA (bin addD (con (.int 2)) (callE (arity 2 c_take) (consA (var 0) (consA (con (.int 5)) nilA)))) nilA))) (callV intX (consA (var 1) nilA))) (nameG 2))
  (seqS (asgS (lstE (consA (con (.int 1)) (consA (con (.int 2)) (consA (con (.int 3)) (consA (con (.int 4)) (consA (con (.int 5)) (consA (con (.int 6)) (consA (con (.int 7)) (consA (con (.int 8)) (consA (con (.int 10)) (consA (con (.int 12)) (consA (con (.int 35)) (consA (con (.int 56)) (consA (con (.int 84)) (consA (con (.int 105)) (consA (con (.int 420)) (consA (con (.int 840)) nilA))))))))))))))))) (nameG 3))
  (seqS (asgS (lstS nilA) (nameG 4))
  (seqS (forS (range1I (consA (bin subD (var 2) (callV intX (consA (notV (var 1)) nilA))) nilA)) (nameG 5) (exprS (methE chkL appD (var 4) (consA (bin ixD (lstE (consA (bin addD (con (.int 1)) (callE (arity 2 c_far) (consA (var 0) (consA (bin mulD (con (.int 5)) (bin powD (con (.int 10)) (con (.int 11)))) nilA)))) (consA (bin ixD (var 3) (callE (arity 2 c_take) (consA (var 0) (consA (con (.int 16)) nilA)))) nilA))) (callV intX (consA (var 1) nilA))) nilA))))
  (seqS (asgS (lstS nilA) (nameG 6))
  (seqS (forS (range1I (consA (var 2) nilA)) (nameG 7) (seqS (asgS (lcE (itemsI (lstE (consA (bin subD (var 7) (con (.int 1))) (consA (var 7) nilA)))) (slot1 5) [5] (orT (asT (var 1)) (asT (chain leD ltD (con (.int 0)) (var 5) (callV lenD (consA (var 4) nilA))))) (bin ixD (var 4) (var 5))) (nameG 8))
  (seqS (asgS (callV maxD (consA (bin addD (lstE (consA (con (.int 1)) nilA)) (var 8)) nilA)) (nameG 9))
  (exprS (methE chkL appD (var 6) (consA (bin addD (var 9) (callE (arity 2 c_far) (consA (var 0) (consA (bin addD (bin subD (bin powD (con (.int 10)) (con (.int 12))) (var 9)) (con (.int 1))) nilA)))) nilA))))))
  (retS (tupE (consA (bin ixD (lstE (consA (con (.str (PySem.Str.ofString "row"))) (consA (con (.str (PySem.Str.ofString "ring"))) nilA))) (callV intX (consA (var 1) nilA))) (consA (callV tupleD (consA (var 6) nilA)) (consA (callV tupleD (consA (var 4) nilA)) nilA))))))))))))
def c_lcell : List D → Sto → O D := gcF (runB 10 (b_lcell))
theorem e_lcell (x0 : D) (st : Sto) : c_lcell [x0] st = gcO st.length (finB (b_lcell [some x0, none, none, none, none, none, none, none, none, none] st)) := congrArg (gcO st.length) ((runB_ap 10 (b_lcell) [x0] st).trans (congrArg (fun r => finB (b_lcell r st)) (show [x0].map some ++ List.replicate (10 - [x0].length) none = [some x0, none, none, none, none, none, none, none, none, none] from rfl)))

def N_same : List Str := ["found", "due", "k"]
def b_same (self : List D → Sto → O D) : DS :=
  (seqS (ifS (asT (isE [.tup] (var 1))) (seqS (ifS (orT (notT (asT (isE [.tup] (var 0)))) (asT (bin neD (callV lenD (consA (var 0) nilA)) (callV lenD (consA (var 1) nilA))))) (retS (con (.bl false))) nextS)
  (retS (bin eqD (lcE (range1I (consA (callV lenD (consA (var 1) nilA)) nilA)) (slot1 2) [2] (notT (asT (callE (arity 2 self) (consA (bin ixD (var 0) (var 2)) (consA (bin ixD (var 1) (var 2)) nilA))))) (var 2)) (lstE nilA)))) nextS)
  (seqS (ifS (orT (asT (isE [.bl] (var 1))) (asT (isE [.bl] (var 0)))) (retS (andV (isE [.bl] (var 1)) (andV (isE [.bl] (var 0)) (bin eqD (var 0) (var 1))))) nextS)
  (seqS (ifS (orT (asT (isE [.str] (var 1))) (asT (isE [.str] (var 0)))) (retS (andV (isE [.str] (var 1)) (andV (isE [.str] (var 0)) (bin eqD (var 0) (var 1))))) nextS)
  (retS (bin eqD (var 0) (var 1))))))
def c_same : Nat → List D → Sto → O D
  | 0 => badF
  | m + 1 => runB 3 (b_same (c_same m))
theorem e_same (m : Nat) (x0 x1 : D) (st : Sto) : c_same (m + 1) [x0, x1] st = finB (b_same (c_same m) [some x0, some x1, none] st) := (runB_ap 3 (b_same (c_same m)) [x0, x1] st).trans (congrArg (fun r => finB (b_same (c_same m) r st)) (show [x0, x1].map some ++ List.replicate (3 - [x0, x1].length) none = [some x0, some x1, none] from rfl))
end SH
set_option Elab.async false
set_option linter.all false
set_option maxRecDepth 100000
set_option autoImplicit false
set_option maxHeartbeats 4000000
namespace SH
open PySem PySem.Spec L2 DL
def N_cellar_text : List Str := ["cellar", "shape", "sizes", "ladles", "parts"]
def b_cellar_text : DS :=
  (seqS (asgS (var 0) (tupG [1, 2, 3]))
  (seqS (asgS (lstS (consA (jsE [(un fmtD (var 1)), (con (.str (PySem.Str.ofString " "))), (un fmtD (callE (arity 1 c_numbers_text) (consA (var 2) nilA)))] Str.empty) nilA)) (nameG 4))
  (seqS (ifS (asT (bin neD (var 3) (tupE nilA))) (exprS (methE chkL appD (var 4) (consA (callE (arity 1 c_numbers_text) (consA (var 3) nilA)) nilA))) nextS)
  (retS (methE chkS joinM (con (.str (PySem.Str.ofString ", "))) (consA (var 4) nilA))))))
def c_cellar_text : List D → Sto → O D := gcF (runB 5 (b_cellar_text))
theorem e_cellar_text (x0 : D) (st : Sto) : c_cellar_text [x0] st = gcO st.length (finB (b_cellar_text [some x0, none, none, none, none] st)) := congrArg (gcO st.length) ((runB_ap 5 (b_cellar_text) [x0] st).trans (congrArg (fun r => finB (b_cellar_text r st)) (show [x0].map some ++ List.replicate (5 - [x0].length) none = [some x0, none, none, none, none] from rfl)))

def N_read_cellar : List Str := ["thing", "parts", "shape", "words", "ladles", "found"]
def b_read_cellar : DS :=
  (seqS (ifS (notT (asT (isE [.str] (var 0)))) (raiseS (ex0 "NoText")) nextS)
  (seqS (asgS (methE chkS splitM (var 0) (consA (con (.str (PySem.Str.ofString ", "))) nilA)) (nameG 1))
  (seqS (ifS (asT (bin gtD (callV lenD (consA (var 1) nilA)) (con (.int 2)))) (raiseS (ex0 "NoText")) nextS)
  (seqS (asgS (methE chkS splitM (bin ixD (var 1) (con (.int 0))) (consA (con (.str (PySem.Str.ofString " "))) nilA)) (starG 2 3))
  (seqS (asgS (tupE nilA) (nameG 4))
  (seqS (ifS (asT (bin eqD (callV lenD (consA (var 1) nilA)) (con (.int 2)))) (asgS (callE (arity 1 c_numbers_told) (consA (methE chkS splitM (bin ixD (var 1) (con (.int 1))) (consA (con (.str (PySem.Str.ofString " "))) nilA)) nilA)) (nameG 4)) nextS)
  (seqS (asgS (tupE (consA (var 2) (consA (callE (arity 1 c_numbers_told) (consA (var 3) nilA)) (consA (var 4) nilA)))) (nameG 5))
  (seqS (ifS (notT (asT (callE (arity 1 c_is_cellar) (consA (var 5) nilA)))) (raiseS (ex0 "NoText")) nextS)
  (retS (var 5))))))))))
def c_read_cellar : List D → Sto → O D := runB 6 (b_read_cellar)
theorem e_read_cellar (x0 : D) (st : Sto) : c_read_cellar [x0] st = finB (b_read_cellar [some x0, none, none, none, none, none] st) := (runB_ap 6 (b_read_cellar) [x0] st).trans (congrArg (fun r => finB (b_read_cellar r st)) (show [x0].map some ++ List.replicate (6 - [x0].length) none = [some x0, none, none, none, none, none] from rfl))
end SH
set_option Elab.async false
set_option linter.all false
set_option maxRecDepth 100000
set_option autoImplicit false
namespace SH
open PySem PySem.Spec L2 DL
/-! ### comprehensions and loops over lists that are told by plain things -/
theorem lc_gen {α : Type} (e : α → D) {i : Nat} {ft : DX Bool} {fe : DX D} {r0 : DL.Env} {st : Sto} (p : α → Bool) (f : α → D) : ∀ (xs : List α) (acc : List D), (∀ x ∈ xs, ft (r0.set i (some (e x))) st = .val (p x) st ∧ (p x = true → fe (r0.set i (some (e x))) st = .val (f x) st)) →
    lcL (slot1 i) ft fe r0 (xs.map e) acc st = .val (acc ++ (xs.filter p).map f) st
  | [], acc, _ => by simp
  | x :: xs, acc, h => by
    obtain ⟨h1, h2⟩ := h x List.mem_cons_self
    have ih := fun acc => lc_gen e p f xs acc fun y hy => h y (List.mem_cons_of_mem _ hy)
    simp only [List.map_cons, lcL_cons1, h1]
    cases c : p x with
    | true => simp [h2 c, ih, List.filter_cons, c]
    | false => simp [ih, List.filter_cons, c]
theorem lc_gen1 {α : Type} (e : α → D) {i : Nat} {fe : DX D} {r0 : DL.Env} {st : Sto} (f : α → D) (xs : List α) (acc : List D) (h : ∀ x ∈ xs, fe (r0.set i (some (e x))) st = .val (f x) st) :
    lcL (slot1 i) yesT fe r0 (xs.map e) acc st = .val (acc ++ xs.map f) st := by
  rw [lc_gen e (fun _ => true) f xs acc fun x hx => ⟨rfl, fun _ => h x hx⟩, List.filter_eq_self.mpr fun _ _ => rfl]
theorem rng_eq (n : Nat) : rangeD 0 n = (List.range n).map fun k : Nat => D.int (k : Int) := by
  unfold rangeD
  apply List.map_congr_left
  intro k _
  show D.int (0 + (k : Int)) = _
  rw [Int.zero_add]
theorem lc_rng {i : Nat} {ft : DX Bool} {fe : DX D} {r0 : DL.Env} {st : Sto} (p : Nat → Bool) (f : Nat → D) (n : Nat) (acc : List D) (h : ∀ k, k < n → ft (r0.set i (some (.int (k : Int)))) st = .val (p k) st ∧ (p k = true → fe (r0.set i (some (.int (k : Int)))) st = .val (f k) st)) :
    lcL (slot1 i) ft fe r0 (rangeD 0 n) acc st = .val (acc ++ ((List.range n).filter p).map f) st := by
  rw [rng_eq]
  exact lc_gen _ p f _ acc fun k hk => h k (by simpa using hk)
theorem lc_rng1 {i : Nat} {fe : DX D} {r0 : DL.Env} {st : Sto} (f : Nat → D) (n : Nat) (acc : List D) (h : ∀ k, k < n → fe (r0.set i (some (.int (k : Int)))) st = .val (f k) st) :
    lcL (slot1 i) yesT fe r0 (rangeD 0 n) acc st = .val (acc ++ (List.range n).map f) st := by
  rw [rng_eq]
  exact lc_gen1 _ f _ acc fun k hk => h k (by simpa using hk)
/-- with draws: each element has a property -/
theorem lc_drawnG {α β : Type} (e : α → D) (out : β → D) {i : Nat} {fe : DX D} {r0 : DL.Env} {N c : Nat} (I : Nat → Sto → Prop) (Pr : α → β → Prop) : ∀ (xs : List α) (acc : List D) (n : Nat) (st : Sto), (∀ x ∈ xs, ∀ n st, I n st → n ≤ N → ∃ r st', fe (r0.set i (some (e x))) st = .val (out r) st' ∧ Pr x r ∧ I (n + c) st') → I n st → n + c * xs.length ≤ N →
    ∃ (ls : List β) (st' : Sto), lcL (slot1 i) yesT fe r0 (xs.map e) acc st = .val (acc ++ ls.map out) st' ∧ ls.length = xs.length ∧ (∀ (k : Nat) (x : α) (l : β), xs[k]? = some x → ls[k]? = some l → Pr x l) ∧ I (n + c * xs.length) st'
  | [], acc, n, st, _, d, _ => ⟨[], st, by simp, rfl, fun k x l h _ => by simp at h, by simpa using d⟩
  | x :: xs, acc, n, st, h, d, hN => by
    simp only [List.length_cons, Nat.mul_succ] at hN
    obtain ⟨r, st1, e1, hr, d1⟩ := h x List.mem_cons_self n st d (by omega)
    obtain ⟨ls, st2, e2, hl, hp, d2⟩ := lc_drawnG e out I Pr xs (acc ++ [out r]) (n + c) st1 (fun y hy => h y (List.mem_cons_of_mem _ hy)) d1 (by omega)
    refine ⟨r :: ls, st2, ?_, by simp [hl], fun k y l hy hl => ?_, by simpa [Nat.mul_succ, Nat.add_assoc, Nat.add_comm, Nat.add_left_comm] using d2⟩
    · simp [e1, e2]
    · cases k with
      | zero => simp at hy hl; subst hy; subst hl; exact hr
      | succ k => exact hp k y l (by simpa using hy) (by simpa using hl)
theorem lc_drawn {α : Type} (e : α → D) {i : Nat} {fe : DX D} {r0 : DL.Env} {N c : Nat} (I : Nat → Sto → Prop) (Pr : α → Int → Prop) (xs : List α) (acc : List D) (n : Nat) (st : Sto) (h : ∀ x ∈ xs, ∀ n st, I n st → n ≤ N → ∃ r st', fe (r0.set i (some (e x))) st = .val (.int r) st' ∧ Pr x r ∧ I (n + c) st') (d : I n st) (hN : n + c * xs.length ≤ N) :
    ∃ (ls : List Int) (st' : Sto), lcL (slot1 i) yesT fe r0 (xs.map e) acc st = .val (acc ++ ls.map .int) st' ∧ ls.length = xs.length ∧ (∀ (k : Nat) (x : α) (l : Int), xs[k]? = some x → ls[k]? = some l → Pr x l) ∧ I (n + c * xs.length) st' :=
  lc_drawnG e D.int I Pr xs acc n st h d hN
/-- a for over the first numbers, by what holds behind k turns -/
theorem loop_rng {g : DG} {b : DS} (n : Nat) (I : Nat → DL.Env → Sto → Prop) (step : ∀ (k : Nat) (r : DL.Env) (st : Sto), k < n → I k r st → ∃ r1 st1 r2 st2, g (.int (k : Int)) r st = .val r1 st1 ∧ (b r1 st1 = .nx r2 st2 ∨ b r1 st1 = .ct r2 st2) ∧ I (k + 1) r2 st2)
    (r : DL.Env) (st : Sto) (h : I 0 r st) : ∃ r2 st2, loopS g b (rangeD 0 n) r st = .nx r2 st2 ∧ I n r2 st2 := by
  obtain ⟨r2, st2, e, k, hk, q⟩ := loop_inv (g := g) (b := b) (fun ds r st => ∃ k, k + ds.length = n ∧ ds = (rangeD 0 n).drop k ∧ I k r st)
    (by
      rintro d ds r st ⟨k, hk, hd, q⟩
      simp only [List.length_cons] at hk
      have hkn : k < n := by omega
      have e1 : d = .int (k : Int) ∧ ds = (rangeD 0 n).drop (k + 1) := by
        have hl : (rangeD 0 n).length = n := by simp [rangeD]
        rw [List.drop_eq_getElem_cons (by omega)] at hd
        have h1 := (List.cons.inj hd).1
        have h2 := (List.cons.inj hd).2
        refine ⟨?_, h2⟩
        rw [h1]
        simp [rangeD]
      obtain ⟨rfl, e2⟩ := e1
      obtain ⟨r1, st1, r2, st2, q1, q2, q3⟩ := step k r st hkn q
      exact ⟨r1, st1, r2, st2, q1, q2, k + 1, by omega, e2, q3⟩)
    (rangeD 0 n) r st ⟨0, by simp [rangeD], by simp, h⟩
  have : k = n := by simpa using hk
  subst this
  exact ⟨r2, st2, e, q.2⟩
/-- a for over plain things -/
theorem loop_gen {α : Type} (e : α → D) {g : DG} {b : DS} (I : List α → DL.Env → Sto → Prop) (step : ∀ (x : α) (xs : List α) (r : DL.Env) (st : Sto), I (x :: xs) r st → ∃ r1 st1 r2 st2, g (e x) r st = .val r1 st1 ∧ (b r1 st1 = .nx r2 st2 ∨ b r1 st1 = .ct r2 st2) ∧ I xs r2 st2) :
    ∀ (xs : List α) (r : DL.Env) (st : Sto), I xs r st → ∃ r2 st2, loopS g b (xs.map e) r st = .nx r2 st2 ∧ I [] r2 st2
  | [], r, st, h => ⟨r, st, by simp, h⟩
  | x :: xs, r, st, h => by
    obtain ⟨r1, st1, r2, st2, q1, q2, q3⟩ := step x xs r st h
    obtain ⟨r3, st3, q4, q5⟩ := loop_gen e I step xs r2 st2 q3
    refine ⟨r3, st3, ?_, q5⟩
    rcases q2 with q2 | q2
    · simp [q1, q2, q4]
    · simp [q1, q2, q4]
/-! ### the last place of a store -/
theorem set_last {α : Type} (xs : List α) (a b : α) : (xs ++ [a]).set xs.length b = xs ++ [b] := by
  rw [List.set_append_right _ _ (Nat.le_refl _)]
  simp
theorem set_last2 {α : Type} (xs : List α) (a b c : α) : (xs ++ [a, b]).set xs.length c = xs ++ [c, b] := by
  rw [List.set_append_right _ _ (Nat.le_refl _)]
  simp
theorem set_last3 {α : Type} (xs : List α) (a b c : α) : (xs ++ [a, b]).set (xs.length + 1) c = xs ++ [a, c] := by
  rw [List.set_append_right _ _ (by omega)]
  simp
theorem get_last2 {α : Type} (xs : List α) (a b : α) : (xs ++ [a, b])[xs.length]? = some a := by
  rw [List.getElem?_append_right (Nat.le_refl _)]
  simp
theorem get_last3 {α : Type} (xs : List α) (a b : α) : (xs ++ [a, b])[xs.length + 1]? = some b := by
  rw [List.getElem?_append_right (by omega)]
  simp
theorem at_last {α : Type} {xs : List α} {x : α} (h : xs[xs.length - 1]? = some x) : atI xs (-1) = some x := by
  have hl : 0 < xs.length := by
    cases xs with
    | nil => simp at h
    | cons a l => simp
  have e : ixN xs.length (-1) = some (xs.length - 1) := by
    unfold ixN
    rw [if_neg (by decide), if_pos (by omega)]
    congr 1
    omega
  unfold atI
  rw [e]
  exact h
theorem sIx_k (n d k : Nat) : HT.sIx n d (some (k : Int)) = min k n := HT.sIx_nat n d k
theorem cut_to {α : Type} (xs : List α) (k : Nat) : cutL xs none (some (k : Int)) = xs.take k := by
  unfold cutL
  rw [sIx_k]
  show (xs.drop 0).take (min k xs.length - 0) = _
  simp
theorem cut_from {α : Type} (xs : List α) (k : Nat) : cutL xs (some (k : Int)) none = xs.drop k := by
  unfold cutL
  rw [sIx_k]
  show (xs.drop (min k xs.length)).take (xs.length - min k xs.length) = _
  by_cases c : k ≤ xs.length
  · rw [Nat.min_eq_left c, List.take_of_length_le (by simp)]
  · rw [Nat.min_eq_right (by omega), List.drop_eq_nil_of_le (Nat.le_refl _), List.drop_eq_nil_of_le (by omega)]
    simp
theorem cut_1 {α : Type} (xs : List α) : cutL xs (some 1) none = xs.drop 1 := cut_from xs 1
theorem mulT_rep (st : Sto) (d : D) (k : Nat) (h1 : 1 ≤ k) (h2 : k ≤ 1000) : mulD st (.tup [d]) (.int (k : Int)) = some (.tup (List.replicate k d)) := by
  by_cases c : k = 1
  · subst c; rfl
  · have e : mulT st (.tup [d]) (.int (k : Int)) = some (.tup (List.replicate k d)) := by
      unfold mulT
      have : (decide ([d] ≠ []) && decide (2 ≤ (k : Int)) && decide ((k : Int) ≤ 1000) && decide ([d].length ≤ 1000)) = true := by
        simp; omega
      dsimp only
      rw [if_pos this]
      have : ∀ n : Nat, (List.replicate n [d]).flatten = List.replicate n d := by
        intro n
        induction n with
        | zero => rfl
        | succ n ih => simp [List.replicate_succ, ih]
      rw [this]
      rfl
    show (mulI st _ _).or ((mulL st _ _).or ((mulT st _ _).or _)) = _
    rw [e]
    rfl
/-- a comprehension over a list of the store, by plain elements -/
theorem lcLR_pure {ix i : Nat} {fe : DX D} {r0 : DL.Env} {st : Sto} {xs : List D} (hx : st[ix]? = some (.lst xs)) (f : D → D) (h : ∀ d ∈ xs, fe (r0.set i (some d)) st = .val (f d) st) :
    ∀ (n j : Nat) (acc : List D), xs.length < n + j → j ≤ xs.length → lcLR ix (slot1 i) yesT fe r0 n j acc st = .val (acc ++ (xs.drop j).map f) st
  | 0, j, acc, h1, h2 => by omega
  | n + 1, j, acc, h1, h2 => by
    unfold lcLR
    rw [hx]
    dsimp only
    by_cases c : j < xs.length
    · have e : xs[j]? = some xs[j] := by simp [c]
      rw [e]
      have := h xs[j] (List.getElem_mem c)
      simp only [slot1_ap, yesT_ap, noEx_val, bind_val, this, if_true]
      rw [lcLR_pure hx f h n (j + 1) _ (by omega) (by omega), List.drop_eq_getElem_cons c, List.map_cons, List.append_assoc]
      rfl
    · have e : xs[j]? = none := by simp; omega
      rw [e, List.drop_of_length_le (by omega)]
      simp
theorem lcR_pure {ix i fuel : Nat} {f : DX D} {fe : DX D} {r : DL.Env} {st st1 : Sto} {xs : List D} (hf : f r st = .val (.ref ix) st1) (hx : st1[ix]? = some (.lst xs)) (g : D → D) (h : ∀ d ∈ xs, fe ((wipeD r [i]).set i (some d)) st1 = .val (g d) st1) (hl : xs.length < fuel) (hb : fuel ≤ 1000000) :
    lcR fuel f (slot1 i) [i] yesT fe r st = .val (.lst (xs.map g)) st1 := by
  unfold lcR
  rw [hf, bind_val]
  dsimp only
  rw [if_pos (big_of hb), lcLR_pure hx g h fuel 0 [] (by omega) (by omega)]
  simp [bind_val]
/-- nothing in the store leads out of it -/
def WF (st : Sto) : Prop := st.all (SO.under st.length) = true
theorem gcO_str (n : Nat) (s : Str) (st : Sto) (h2 : (st.take n).all (SO.under n) = true) : gcO n (.val (.str s) st) = .val (.str s) (st.take n) := by
  show (if (D.under n (.str s) && (st.take n).all (SO.under n)) = true then _ else _) = _
  rw [h2]
  rfl
theorem times_1 (st : Sto) (s : Str) (h : s.length ≤ 1000000) : mulD st (.str s) (.int 1) = some (.str s) := by
  have e : repS s 1 = s := rfl
  have e0 : mulD st (.str s) (.int 1) = mulS st (.str s) (.int 1) := rfl
  rw [e0]
  unfold mulS
  dsimp only
  rw [e, if_pos]
  simp [h]
theorem times_0 (st : Sto) (s : Str) : mulD st (.str s) (.int 0) = some (.str Str.empty) := by
  have e : repS s 0 = Str.empty := rfl
  have e0 : mulD st (.str s) (.int 0) = mulS st (.str s) (.int 0) := rfl
  rw [e0]
  unfold mulS
  dsimp only
  rw [e, if_pos]
  have : Str.empty.length = 0 := rfl
  simp [this]
end SH
set_option Elab.async false
set_option linter.all false
set_option maxRecDepth 100000
set_option autoImplicit false
namespace SH
open PySem PySem.Spec L2 DL
def isW : D → Bool
  | .int _ => true
  | _ => false
def isF (lo hi : Int) : D → Bool
  | .int i => decide (lo ≤ i) && decide (i ≤ hi)
  | _ => false
def known : D → Bool
  | .ref _ => false
  | _ => true
theorem m_is_whole (d : D) (st : Sto) (h : known d = true) : c_is_whole [d] st = .val (.bl (isW d)) st := by
  rw [e_is_whole]
  cases d <;> first | (cases h; done) | simp [b_is_whole, isW]
theorem m_is_from (d : D) (lo hi : Int) (st : Sto) (h : known d = true) : c_is_from [d, .int lo, .int hi] st = .val (.bl (isF lo hi d)) st := by
  rw [e_is_from]
  simp only [b_is_from]
  cases d with
  | int i =>
    by_cases c : lo ≤ i <;> simp [m_is_whole _ _ h, isW, isF, c]
  | _ => first | (cases h; done) | (simp [m_is_whole _ _ h, isW, isF])
theorem bls_map (g : D → Bool) : ∀ ys : List D, blsOf (ys.map fun d => D.bl (g d)) = some (ys.map g)
  | [] => rfl
  | y :: ys => by simp [blsOf, bls_map g ys]
theorem m_row_of (xs : List D) (lo hi : Int) (st : Sto) (hb : xs.length ≤ 1000000) (h : ∀ d ∈ xs, known d = true) : c_is_row_of [.tup xs, .int lo, .int hi] st = .val (.bl (xs.all (isF lo hi))) st := by
  rw [e_is_row_of]
  simp only [b_is_row_of]
  simp [hb]
  rw [lc_map1 (fun d => .bl (isF lo hi d)) xs [] (fun d hd => by simp [m_is_from _ _ _ _ (h d hd)])]
  simp [allD, one1, seqL, bls_map]
theorem m_is_ring (s : Str) (xs : List D) (st : Sto) : c_is_ring [.tup (.str s :: xs)] st = .val (.bl (s == PySem.Str.ofString "ring")) st := by
  rw [e_is_ring]
  simp [b_is_ring]
theorem m_ends (a b : D) (xs : List D) (k : Int) (st : Sto) (h : 0 < xs.length) : c_ends [.tup [a, .tup xs, b], .int k] st = .val (.tup [.int k, .int ((k + 1) % xs.length)]) st := by
  rw [e_ends]
  simp [b_ends, h]
theorem row_ne_ring : (PySem.Str.ofString "row" == PySem.Str.ofString "ring") = false := by decide
theorem ring_ne_row : (PySem.Str.ofString "ring" == PySem.Str.ofString "row") = false := by decide
theorem m_counts (xs ls : List D) (st : Sto) : c_counts_fit [.str (PySem.Str.ofString "row"), .tup xs, .tup ls] st = .val (.bl (decide (1 ≤ xs.length ∧ xs.length ≤ 12 ∧ ls.length + 1 = xs.length))) st := by
  rw [e_counts_fit]
  simp [b_counts_fit, row_ne_ring]
  by_cases c : 1 ≤ xs.length
  · have c' : (1 : Int) ≤ xs.length := by omega
    by_cases c2 : xs.length ≤ 12
    · have c2' : (xs.length : Int) ≤ 12 := by omega
      simp [c, c', c2, c2']
      by_cases c3 : ls.length + 1 = xs.length
      · have : (ls.length : Int) = xs.length - 1 := by omega
        simp [c3, this]
      · have : ¬ (ls.length : Int) = xs.length - 1 := by omega
        simp [c3, this]
    · have c2' : ¬ (xs.length : Int) ≤ 12 := by omega
      simp [c, c', c2, c2']
  · have c' : ¬ (1 : Int) ≤ xs.length := by omega
    simp [c, c']
theorem filter_no {α : Type} (xs : List α) : xs.filter (fun _ => false) = [] := List.filter_eq_nil_iff.mpr fun _ _ h => Bool.noConfusion h
theorem rng1_nat' {n : Nat} (h : n ≤ 1000000) : rng1 (n : Int) = some (rangeD 0 n) := by
  unfold rng1
  rw [if_pos (by omega)]
  simp
theorem mem_range {n : Nat} {d : D} (h : d ∈ rangeD 0 n) : ∃ k : Nat, k < n ∧ d = .int (k : Int) := by
  unfold rangeD at h
  obtain ⟨k, hk, e⟩ := List.mem_map.mp h
  exact ⟨k, by simpa using hk, by rw [← e]; simp⟩
theorem len_range (lo : Int) (n : Nat) : (rangeD lo n).length = n := by simp [rangeD]
theorem max_of (a : Int) (bs : List Int) : ∃ m, maxI (a :: bs) = some m ∧ (m = a ∨ m ∈ bs) ∧ a ≤ m ∧ ∀ b ∈ bs, b ≤ m := by
  refine ⟨_, rfl, ?_⟩
  induction bs generalizing a with
  | nil => simp
  | cons b bs ih =>
    simp only [List.foldl_cons]
    obtain ⟨h1, h2, h3⟩ := ih (if b > a then b else a)
    by_cases c : b > a
    · rw [if_pos c] at h1 h2 h3 ⊢
      refine ⟨?_, by omega, fun x hx => ?_⟩
      · rcases h1 with h1 | h1
        · exact .inr (by rw [h1]; exact List.mem_cons_self)
        · exact .inr (List.mem_cons_of_mem _ h1)
      · rcases List.mem_cons.mp hx with rfl | hx
        · exact h2
        · exact h3 x hx
    · rw [if_neg c] at h1 h2 h3 ⊢
      refine ⟨?_, by omega, fun x hx => ?_⟩
      · rcases h1 with h1 | h1
        · exact .inl h1
        · exact .inr (List.mem_cons_of_mem _ h1)
      · rcases List.mem_cons.mp hx with rfl | hx
        · omega
        · exact h3 x hx
theorem ints_map : ∀ ns : List Int, intsOf (ns.map D.int) = some ns
  | [] => rfl
  | n :: ns => by simp [intsOf, ints_map ns]
theorem in_2 (st : Sto) (v a b : Int) : inD st (.int v) (.tup [.int a, .int b]) = some (.bl (a == v || b == v)) := by
  simp [inD, inB, D.ht, D.hts, seqA, seqT, D.eqb]
/-- each ladle is no more than the vessels beside it -/
def Fits (s l : List Int) : Prop := ∀ (k : Nat) (v a b : Int), l[k]? = some v → s[k]? = some a → s[(k + 1) % s.length]? = some b → v ≤ a ∧ v ≤ b
theorem under_ints (n : Nat) : ∀ ns : List Int, D.underAll n (ns.map D.int) = true
  | [] => rfl
  | a :: r => by simp [D.underAll, D.under, under_ints n r]
theorem atI_map {ns : List Int} {k : Nat} {v : Int} (h : ns[k]? = some v) : atI (ns.map D.int) (k : Int) = some (.int v) := atI_nat (by rw [List.getElem?_map, h]; rfl)
abbrev sRow : Str := PySem.Str.ofString "row"
abbrev sRing : Str := PySem.Str.ofString "ring"
theorem ring_eq_ring : (PySem.Str.ofString "ring" == PySem.Str.ofString "ring") = true := by decide
theorem wh_measure : ∀ (n a b : Nat) (st : Sto), b < n → ∃ x1, whileS (asT (bin gtD (var 1) (con (.int 0)))) (parS 0 1 (consA (var 1) (consA (bin modD (var 0) (var 1)) nilA))) n [some (.int a), some (.int b)] st = .nx [some (.int (Nat.gcd a b)), x1] st := by
  intro n
  induction n with
  | zero => intro a b st h; omega
  | succ n ih =>
    intro a b st h
    rw [whileS_succ]
    by_cases c : 0 < b
    · have c' : (0 : Int) < b := by omega
      obtain ⟨x1, e⟩ := ih b (a % b) st (by have := Nat.mod_lt a c; omega)
      refine ⟨x1, ?_⟩
      have e2 : Nat.gcd b (a % b) = Nat.gcd a b := by rw [Nat.gcd_comm, ← Nat.gcd_rec, Nat.gcd_comm]
      rw [e2] at e
      have e3 : ((a % b : Nat) : Int) = (a : Int) % (b : Int) := Int.natCast_emod a b
      rw [e3] at e
      simp [c, e]
    · have : b = 0 := by omega
      subst this
      exact ⟨some (.int 0), by simp⟩
theorem m_measure (a b : Nat) (st : Sto) : c_measure [.int a, .int b] st = .val (.int (Nat.gcd a b)) st := by
  rw [e_measure]
  obtain ⟨x1, e⟩ := wh_measure (b + 1) a b st (Nat.lt_succ_self _)
  simp [b_measure, e]
/-- the common multiple -/
def lcmL (l : List Int) : Nat := l.foldl (fun a b => Nat.lcm a b.toNat) 1
theorem loop_multiple : ∀ (l : List Int) (a : Nat) (x0 x2 : Option D) (st : Sto), 0 < a → (∀ x ∈ l, 1 ≤ x ∧ x ≤ 500000000000) → ∃ y2, loopS (nameG 2) (asgS (bin mulD (bin fdivD (var 1) (callE (arity 2 c_measure) (consA (var 1) (consA (var 2) nilA)))) (var 2)) (nameG 1)) (l.map D.int) [x0, some (.int a), x2] st = .nx [x0, some (.int ((l.foldl (fun a b => Nat.lcm a b.toNat) a : Nat))), y2] st ∧ 0 < l.foldl (fun a b => Nat.lcm a b.toNat) a
  | [], a, x0, x2, st, ha, _ => ⟨x2, rfl, ha⟩
  | x :: l, a, x0, x2, st, ha, h => by
    obtain ⟨h1, h2⟩ := h x List.mem_cons_self
    obtain ⟨b, rfl⟩ := Int.eq_ofNat_of_zero_le (show 0 ≤ x by omega)
    have hb : 0 < b := by omega
    have hg : 0 < Nat.gcd a b := Nat.gcd_pos_of_pos_left b ha
    have hgb : Nat.gcd a b ≤ b := Nat.gcd_le_right a hb
    have e1 := m_measure a b st
    have g1 : (0 : Int) < (Nat.gcd a b : Int) := by omega
    have g2 : (Nat.gcd a b : Int) ≤ 1000000000000000000 := by omega
    have e2 : ((a : Int) / (Nat.gcd a b : Int)) * (b : Int) = ((Nat.lcm a b : Nat) : Int) := by
      rw [← Int.natCast_ediv, ← Int.natCast_mul]
      congr 1
      show a / Nat.gcd a b * b = a * b / Nat.gcd a b
      rw [Nat.mul_comm a b, Nat.mul_div_assoc b (Nat.gcd_dvd_left a b), Nat.mul_comm]
    have m1 : (-(2 ^ 64) : Int) < (b : Int) := by omega
    have m2 : (b : Int) < 2 ^ 64 := by omega
    have hl : 0 < Nat.lcm a b := Nat.lcm_pos ha hb
    obtain ⟨y2, e3, e4⟩ := loop_multiple l (Nat.lcm a b) x0 (some (.int b)) st hl fun y hy => h y (List.mem_cons_of_mem _ hy)
    have e8 : Int.toNat (b : Int) = b := Int.toNat_natCast b
    simp only [List.map_cons, List.foldl_cons, e8]
    refine ⟨y2, ?_, e4⟩
    have e5 : mulD st (.int ((a : Int) / (Nat.gcd a b : Int))) (.int b) = some (.int (Nat.lcm a b : Nat)) := by rw [mul_right' m1 m2, e2]
    have e6 := fdiv_ok' (st := st) (i := (a : Int)) g1 g2
    generalize Nat.gcd a b = g at *
    generalize Nat.lcm a b = lc at *
    simp [e1, e5, e6]
    simpa using e3
theorem m_multiple (l : List Int) (st : Sto) (h : ∀ x ∈ l, 1 ≤ x ∧ x ≤ 500000000000) : c_multiple [.tup (l.map .int)] st = .val (.int (lcmL l)) st := by
  rw [e_multiple]
  obtain ⟨y2, e, _⟩ := loop_multiple l 1 (some (.tup (l.map .int))) none st (by decide) h
  simp only [b_multiple]
  have e' : loopS (nameG 2) (asgS (bin mulD (bin fdivD (var 1) (callE (arity 2 c_measure) (consA (var 1) (consA (var 2) nilA)))) (var 2)) (nameG 1)) (l.map D.int) [some (.tup (l.map .int)), some (.int 1), none] st = .nx [some (.tup (l.map .int)), some (.int (lcmL l)), y2] st := e
  simp [e']
theorem fold_lcm_dvd : ∀ (l : List Int) (a : Nat), a ∣ l.foldl (fun a b => Nat.lcm a b.toNat) a ∧ (∀ x ∈ l, x.toNat ∣ l.foldl (fun a b => Nat.lcm a b.toNat) a)
  | [], a => ⟨Nat.dvd_refl a, by simp⟩
  | x :: l, a => by
    obtain ⟨h1, h2⟩ := fold_lcm_dvd l (Nat.lcm a x.toNat)
    simp only [List.foldl_cons]
    refine ⟨Nat.dvd_trans (Nat.dvd_lcm_left _ _) h1, fun y hy => ?_⟩
    rcases List.mem_cons.mp hy with rfl | hy
    · exact Nat.dvd_trans (Nat.dvd_lcm_right _ _) h1
    · exact h2 y hy
theorem fold_lcm_least (m : Nat) : ∀ (l : List Int) (a : Nat), a ∣ m → (∀ x ∈ l, x.toNat ∣ m) → l.foldl (fun a b => Nat.lcm a b.toNat) a ∣ m
  | [], a, ha, _ => ha
  | x :: l, a, ha, h => by
    simp only [List.foldl_cons]
    exact fold_lcm_least m l _ (Nat.lcm_dvd ha (h x List.mem_cons_self)) fun y hy => h y (List.mem_cons_of_mem _ hy)
theorem lcm_pos (l : List Int) (h : ∀ x ∈ l, 1 ≤ x) : 0 < lcmL l := by
  unfold lcmL
  have : ∀ (l : List Int) (a : Nat), 0 < a → (∀ x ∈ l, 1 ≤ x) → 0 < l.foldl (fun a b => Nat.lcm a b.toNat) a := by
    intro l
    induction l with
    | nil => intro a ha _; exact ha
    | cons x l ih =>
      intro a ha h
      simp only [List.foldl_cons]
      have := h x List.mem_cons_self
      exact ih _ (Nat.lcm_pos ha (by omega)) fun y hy => h y (List.mem_cons_of_mem _ hy)
  exact this l 1 (by decide) h
/-- a number to 840 that all go into is there just where the common multiple is one -/
theorem small_iff (l : List Int) (h : ∀ x ∈ l, 1 ≤ x) : lcmL l ≤ 840 ↔ ∃ m : Nat, 1 ≤ m ∧ m ≤ 840 ∧ ∀ x ∈ l, x.toNat ∣ m := by
  constructor
  · intro hl
    exact ⟨lcmL l, lcm_pos l h, hl, (fold_lcm_dvd l 1).2⟩
  · rintro ⟨m, h1, h2, h3⟩
    exact Nat.le_trans (Nat.le_of_dvd h1 (fold_lcm_least m l 1 (Nat.one_dvd m) h3)) h2
theorem cut_map (ns : List Int) (lo hi : Option Int) : cutL (ns.map D.int) lo hi = (cutL ns lo hi).map D.int := by
  unfold cutL
  rw [List.length_map, List.map_take, List.map_drop]
theorem all_known : ∀ ns : List Int, ∀ d ∈ ns.map D.int, known d = true := by
  intro ns d hd
  obtain ⟨x, _, rfl⟩ := List.mem_map.mp hd
  rfl
theorem all_isF (lo hi : Int) : ∀ ns : List Int, (ns.map D.int).all (isF lo hi) = ns.all fun x => decide (lo ≤ x) && decide (x ≤ hi)
  | [] => rfl
  | n :: ns => by simp [isF, all_isF lo hi ns]
/-- what all of an interval are, are numbers -/
theorem ints_of_all {lo hi : Int} : ∀ {ls : List D}, ls.all (isF lo hi) = true → ∃ ns : List Int, ls = ns.map .int ∧ ∀ x ∈ ns, lo ≤ x ∧ x ≤ hi
  | [], _ => ⟨[], rfl, by simp⟩
  | d :: ds, h => by
    simp only [List.all_cons, Bool.and_eq_true] at h
    obtain ⟨ns, rfl, q⟩ := ints_of_all h.2
    cases d with
    | int i =>
      simp only [isF, Bool.and_eq_true, decide_eq_true_eq] at h
      refine ⟨i :: ns, rfl, fun x hx => ?_⟩
      rcases List.mem_cons.mp hx with rfl | hx
      · exact h.1
      · exact q x hx
    | _ => simp [isF] at h
theorem m_row_ints (xs : List Int) (lo hi : Int) (st : Sto) (hb : xs.length ≤ 1000000) : c_is_row_of [.tup (xs.map .int), .int lo, .int hi] st = .val (.bl (xs.all fun x => decide (lo ≤ x) && decide (x ≤ hi))) st := by
  rw [m_row_of _ _ _ _ (by rw [List.length_map]; exact hb) (all_known xs), all_isF]
theorem map_inj : ∀ {x y : List Int}, x.map D.int = y.map D.int → x = y
  | [], [], _ => rfl
  | [], _ :: _, h => by simp at h
  | _ :: _, [], h => by simp at h
  | a :: x, b :: y, h => by
    simp only [List.map_cons, List.cons.injEq, D.int.injEq] at h
    rw [h.1, map_inj h.2]

def shS (ring : Bool) : Str := if ring then PySem.Str.ofString "ring" else PySem.Str.ofString "row"
/-- a cellar as a value -/
def cellD (ring : Bool) (s l : List Int) : D := .tup [.str (shS ring), .tup (s.map .int), .tup (l.map .int)]
structure Good (ring : Bool) (s l : List Int) : Prop where
  s1 : ∀ x ∈ s, 1 ≤ x ∧ x ≤ 1000000000000
  l1 : ∀ x ∈ l, 1 ≤ x ∧ x ≤ 500000000000
  cnt : if ring then 2 ≤ s.length ∧ s.length ≤ 6 ∧ l.length = s.length else 1 ≤ s.length ∧ s.length ≤ 12 ∧ l.length + 1 = s.length
  ft : Fits s l
  mu : ring = true → lcmL l ≤ 840
theorem Good.n2 {ring : Bool} {s l : List Int} (G : Good ring s l) : 1 ≤ s.length ∧ s.length ≤ 12 ∧ l.length ≤ 12 := by
  have := G.cnt
  cases ring
  · simp at this; omega
  · simp at this; omega
theorem sh_ring (ring : Bool) : (shS ring == PySem.Str.ofString "ring") = ring := by cases ring <;> decide
theorem sh_row (ring : Bool) : (shS ring == PySem.Str.ofString "row") = !ring := by cases ring <;> decide
theorem notin_sh (st : Sto) (ring : Bool) : notInD st (.str (shS ring)) (.tup [.str (PySem.Str.ofString "row"), .str (PySem.Str.ofString "ring")]) = some (.bl false) := by
  cases ring
  · simp [shS, notInD, inB, D.ht, D.hts, seqA, seqT, D.eqb]
  · simp [shS, notInD, inB, D.ht, D.hts, seqA, seqT, D.eqb]
theorem m_ring (ring : Bool) (xs : List D) (st : Sto) : c_is_ring [.tup (.str (shS ring) :: xs)] st = .val (.bl ring) st := by
  rw [m_is_ring, sh_ring]
theorem m_countsB (ring : Bool) (xs ls : List D) (st : Sto) : ∃ b, c_counts_fit [.str (shS ring), .tup xs, .tup ls] st = .val (.bl b) st ∧ (b = true ↔ if ring then 2 ≤ xs.length ∧ xs.length ≤ 6 ∧ ls.length = xs.length else 1 ≤ xs.length ∧ xs.length ≤ 12 ∧ ls.length + 1 = xs.length) := by
  cases ring with
  | false =>
    refine ⟨_, m_counts xs ls st, ?_⟩
    simp
  | true =>
    refine ⟨decide (2 ≤ xs.length ∧ xs.length ≤ 6 ∧ ls.length = xs.length), ?_, by simp⟩
    rw [e_counts_fit]
    have hs : shS true = PySem.Str.ofString "ring" := rfl
    rw [hs]
    simp [b_counts_fit, ring_eq_ring]
    by_cases c : 2 ≤ xs.length
    · have c' : (2 : Int) ≤ xs.length := by omega
      by_cases c2 : xs.length ≤ 6
      · have c2' : (xs.length : Int) ≤ 6 := by omega
        simp [c, c', c2, c2']
        rw [Bool.eq_iff_iff, beq_iff_eq, decide_eq_true_iff]
        omega
      · have c2' : ¬ (xs.length : Int) ≤ 6 := by omega
        simp [c, c', c2, c2']
    · have c' : ¬ (2 : Int) ≤ xs.length := by omega
      simp [c, c']
theorem m_ladles_fit (ring : Bool) (s l : List Int) (st : Sto) (hn : l.length ≤ s.length) (hs : s.length ≤ 1000) (hs0 : 1 ≤ s.length) (hl : ∀ x ∈ l, 1 ≤ x ∧ x ≤ 500000000000) : ∃ b, c_ladles_fit [cellD ring s l] st = .val (.bl b) st ∧ (b = true ↔ Fits s l ∧ (ring = true → lcmL l ≤ 840)) := by
  rw [e_ladles_fit]
  -- one ladle
  let bd : DS := (ifS (asT (bin neD (lcE (itemsI (callE (arity 2 c_ends) (consA (var 0) (consA (var 1) nilA)))) (slot1 3) [3] (asT (bin ltD (bin ixD (bin ixD (var 0) (con (.int 1))) (var 3)) (var 2))) (var 3)) (lstE nilA))) (retS (con (.bl false))) nextS)
  have step : ∀ (k : Nat) (v a b : Int), s[k]? = some a → s[(k + 1) % s.length]? = some b → bd [some (cellD ring s l), some (.int k), some (.int v), none] st = if v ≤ a ∧ v ≤ b then .nx [some (cellD ring s l), some (.int k), some (.int v), none] st else .rt (.bl false) st := by
    intro k v a b ha hb
    have hp : 0 < (s.map D.int).length := by simp; omega
    have e := m_ends (.str (shS ring)) (.tup (l.map .int)) (s.map D.int) k st hp
    have em : ((k : Int) + 1) % ((s.map D.int).length : Int) = (((k + 1) % s.length : Nat) : Int) := by
      rw [List.length_map, Int.natCast_emod]; rfl
    rw [em] at e
    have hb' : atI (s.map D.int) (((k + 1) % s.length : Nat) : Int) = some (.int b) := atI_map hb
    generalize (k + 1) % s.length = j at *
    simp only [bd, cellD]
    simp [e]
    by_cases c1 : v ≤ a
    · have c1' : ¬ a < v := by omega
      by_cases c2 : v ≤ b
      · have c2' : ¬ b < v := by omega
        simp [atI_map ha, hb', c1', c2', c1, c2, neD, eqB, D.see, seqL, D.ht, D.hts, D.eqb, D.eqbs]
      · have c2' : b < v := by omega
        simp [atI_map ha, hb', c1', c2', c1, c2, neD, eqB, D.see, seqL, D.ht, D.hts, D.eqb, D.eqbs]
    · have c1' : a < v := by omega
      by_cases c2 : v ≤ b
      · have c2' : ¬ b < v := by omega
        simp [atI_map ha, hb', c1', c2', c1, c2, neD, eqB, D.see, seqL, D.ht, D.hts, D.eqb, D.eqbs]
      · have c2' : b < v := by omega
        simp [atI_map ha, hb', c1', c2', c1, c2, neD, eqB, D.see, seqL, D.ht, D.hts, D.eqb, D.eqbs]
  let FF : Nat → Prop := fun k => ∀ (j : Nat) (v a b : Int), k ≤ j → l[j]? = some v → s[j]? = some a → s[(j + 1) % s.length]? = some b → v ≤ a ∧ v ≤ b
  have loop : ∀ (rest : List Int) (k : Nat) (x1 x2 : Option D), l.drop k = rest → k ≤ l.length → (∃ y1 y2, loopS (tupG [1, 2]) bd (enumFrom k (rest.map D.int)) [some (cellD ring s l), x1, x2, none] st = .nx [some (cellD ring s l), y1, y2, none] st ∧ FF k) ∨
      (loopS (tupG [1, 2]) bd (enumFrom k (rest.map D.int)) [some (cellD ring s l), x1, x2, none] st = .rt (.bl false) st ∧ ¬ FF k) := by
    intro rest
    induction rest with
    | nil =>
      intro k x1 x2 hd hk
      left
      refine ⟨x1, x2, rfl, fun j v a b hj h1 => ?_⟩
      have := (List.getElem?_eq_some_iff.mp h1).1
      have h2 := congrArg List.length hd
      simp at h2
      omega
    | cons v rest ih =>
      intro k x1 x2 hd hk
      have hv : l[k]? = some v := by
        have := congrArg (fun z => z[0]?) hd
        simpa using this
      have hkl : k < l.length := (List.getElem?_eq_some_iff.mp hv).1
      obtain ⟨a, ha⟩ : ∃ a, s[k]? = some a := ⟨s[k], by simp⟩
      have hmod : (k + 1) % s.length < s.length := Nat.mod_lt _ hs0
      obtain ⟨b, hb⟩ : ∃ b, s[(k + 1) % s.length]? = some b := ⟨s[(k + 1) % s.length], by simp⟩
      have hd' : l.drop (k + 1) = rest := by
        have := congrArg (fun z => z.drop 1) hd
        simpa [List.drop_drop, Nat.add_comm] using this
      have st1 := step k v a b ha hb
      simp only [List.map_cons, enumFrom, loop_cons, tupG_ap', namesE_cons, namesE_nil, ofOpt_some, lpA_0, List.set_cons_succ, List.set_cons_zero, st1]
      by_cases c : v ≤ a ∧ v ≤ b
      · rw [if_pos c, lpB_0]
        rcases ih (k + 1) (some (.int k)) (some (.int v)) hd' hkl with ⟨y1, y2, e, f⟩ | ⟨e, f⟩
        · left
          refine ⟨y1, y2, e, fun j w x y hj h1 h2 h3 => ?_⟩
          by_cases hjk : j = k
          · subst hjk
            rw [hv] at h1; rw [ha] at h2; rw [hb] at h3
            cases h1; cases h2; cases h3
            exact c
          · exact f j w x y (by omega) h1 h2 h3
        · right
          exact ⟨e, fun g => f fun j w x y hj => g j w x y (by omega)⟩
      · rw [if_neg c, lpB_3]
        right
        exact ⟨rfl, fun g => c (g k v a b (Nat.le_refl _) hv ha hb)⟩
  have hb : b_ladles_fit = seqS (forS (enumI (consA (bin ixD (var 0) (con (.int 2))) nilA)) (tupG [1, 2]) bd) (retS (orV (notV (callE (arity 1 c_is_ring) (consA (var 0) nilA))) (bin leD (callE (arity 1 c_multiple) (consA (bin ixD (var 0) (con (.int 2))) nilA)) (con (.int 840))))) := rfl
  have er := m_ring ring [.tup (s.map .int), .tup (l.map .int)] st
  have em := m_multiple l st hl
  rw [hb]
  rcases loop l 0 none none rfl (Nat.zero_le _) with ⟨y1, y2, e, f⟩ | ⟨e, f⟩
  · have f' : Fits s l := fun k v a b => f k v a b (Nat.zero_le _)
    cases ring with
    | false =>
      refine ⟨true, ?_, iff_of_true rfl ⟨f', fun h => Bool.noConfusion h⟩⟩
      simp only [cellD] at e ⊢
      simp [e, er]
    | true =>
      refine ⟨decide (lcmL l ≤ 840), ?_, ?_⟩
      · simp only [cellD] at e ⊢
        simp [e, er, em]
        by_cases c : lcmL l ≤ 840
        · have c' : (lcmL l : Int) ≤ 840 := by omega
          simp [c, c']
        · have c' : ¬ (lcmL l : Int) ≤ 840 := by omega
          simp [c, c']
      · simp [f']
  · refine ⟨false, ?_, iff_of_false Bool.false_ne_true fun g => f fun j w x y _ => g.1 j w x y⟩
    simp only [cellD] at e ⊢
    simp [e]
/-- what is_cellar tells of a would-be cellar -/
theorem m_is_cellar (ring : Bool) (s : List Int) (ls : List D) (st : Sto) (hs : ∀ x ∈ s, 1 ≤ x ∧ x ≤ 1000000000000) (hls : ∀ d ∈ ls, known d = true) (n1 : s.length ≤ 1000) (n2 : ls.length ≤ 1000) :
    ∃ b, c_is_cellar [.tup [.str (shS ring), .tup (s.map .int), .tup ls]] st = .val (.bl b) st ∧ (b = true ↔ ∃ l : List Int, ls = l.map .int ∧ Good ring s l) := by
  rw [e_is_cellar]
  have q1 := m_row_ints s 1 1000000000000 st (by omega)
  have q2 := m_row_of ls 1 500000000000 st (by omega) hls
  have a1 : (s.all fun x => decide (1 ≤ x) && decide (x ≤ 1000000000000)) = true := by
    rw [List.all_eq_true]
    intro x hx
    simp [(hs x hx).1, (hs x hx).2]
  rw [a1] at q1
  obtain ⟨bc, q3, hbc⟩ := m_countsB ring (s.map .int) ls st
  simp only [b_is_cellar]
  by_cases c : ls.all (isF 1 500000000000) = true
  · obtain ⟨l, rfl, hl⟩ := ints_of_all c
    rw [c] at q2
    simp only [List.length_map] at hbc
    cases bc with
    | true =>
      have c2 := hbc.mp rfl
      have c3 : l.length ≤ s.length ∧ 1 ≤ s.length := by
        cases ring
        · simp at c2; omega
        · simp at c2; omega
      obtain ⟨b, e, hb⟩ := m_ladles_fit ring s l st c3.1 (by omega) c3.2 hl
      refine ⟨b, ?_, ?_⟩
      · simp only [cellD] at e
        simp [notin_sh, q1, q2, q3, e]
      · rw [hb]
        constructor
        · intro f
          exact ⟨l, rfl, hs, hl, c2, f.1, f.2⟩
        · rintro ⟨l', e', g⟩
          rw [map_inj e']
          exact ⟨g.ft, g.mu⟩
    | false =>
      refine ⟨false, ?_, ?_⟩
      · simp [notin_sh, q1, q2, q3]
      · refine iff_of_false Bool.false_ne_true ?_
        rintro ⟨l', e', g⟩
        have := g.cnt
        rw [← map_inj e'] at this
        exact Bool.false_ne_true (hbc.mpr this)
  · have c' : ls.all (isF 1 500000000000) = false := by simpa using c
    rw [c'] at q2
    refine ⟨false, ?_, ?_⟩
    · simp [notin_sh, q1, q2]
    · refine iff_of_false Bool.false_ne_true ?_
      rintro ⟨l', rfl, g⟩
      apply c
      rw [all_isF, List.all_eq_true]
      intro x hx
      simp [(g.l1 x hx).1, (g.l1 x hx).2]
theorem good_cellar {ring : Bool} {s l : List Int} (G : Good ring s l) (st : Sto) : c_is_cellar [cellD ring s l] st = .val (.bl true) st := by
  have n2 := G.n2
  obtain ⟨b, h, hb⟩ := m_is_cellar ring s (l.map .int) st G.s1 (all_known l) (by omega) (by simp; omega)
  rw [hb.mpr ⟨l, rfl, G⟩] at h
  exact h
theorem zip_map : ∀ f s : List Int, zipD (f.map D.int) (s.map D.int) = (f.zip s).map fun p => D.tup [.int p.1, .int p.2]
  | [], _ => rfl
  | _ :: _, [] => rfl
  | x :: f, y :: s => by simp [zipD, zip_map f s]
theorem bls_gen {α : Type} (g : α → Bool) : ∀ zs : List α, blsOf (zs.map fun z => D.bl (g z)) = some (zs.map g)
  | [] => rfl
  | z :: zs => by simp [blsOf, bls_gen g zs]
theorem m_is_fill {ring : Bool} {s l f : List Int} (st : Sto) (hl : f.length = s.length) (hs : s.length ≤ 1000) (hf : ∀ (k : Nat) (x r : Int), s[k]? = some x → f[k]? = some r → 0 ≤ r ∧ r ≤ x) : c_is_fill [cellD ring s l, .tup (f.map .int)] st = .val (.bl true) st := by
  rw [e_is_fill]
  have z : zip2 (.tup (f.map .int)) (.tup (s.map .int)) = some ((f.zip s).map fun p => D.tup [.int p.1, .int p.2]) := by
    show some (zipD (f.map .int) (s.map .int)) = _
    rw [zip_map]
  have hz : (f.zip s).length ≤ 1000000 := by simp; omega
  have lc : ∀ (zs : List (Int × Int)) (acc : List D) (r0 : DL.Env), r0 = [some (cellD ring s l), some (.tup (f.map .int)), none, none] → lcL (slot2 2 3) yesT (callE (arity 3 c_is_from) (consA (var 2) (consA (con (.int 0)) (consA (var 3) nilA)))) r0 (zs.map fun p => D.tup [.int p.1, .int p.2]) acc st = .val (acc ++ zs.map fun p => D.bl (isF 0 p.2 (.int p.1))) st := by
    intro zs
    induction zs with
    | nil => intro acc r0 _; simp [lcL]
    | cons p zs ih =>
      intro acc r0 hr
      subst hr
      have e := m_is_from (.int p.1) 0 p.2 st rfl
      unfold lcL
      simp only [slot2_ap, yesT_ap, noEx_val, bind_val, if_true]
      simp [e, bind_val, ih _ _ rfl]
  have e2 := lc (f.zip s) [] _ rfl
  have hall : ((f.zip s).map fun p => isF 0 p.2 (.int p.1)).all id = true := by
    rw [List.all_eq_true]
    intro b hb
    obtain ⟨p, hp, rfl⟩ := List.mem_map.mp hb
    obtain ⟨k, hk⟩ := List.mem_iff_getElem?.mp hp
    rw [List.getElem?_zip_eq_some] at hk
    have := hf k p.2 p.1 hk.2 hk.1
    simp [isF, this.1, this.2]
  have e3 : allD st [.lst ((f.zip s).map fun p => D.bl (isF 0 p.2 (.int p.1)))] = some (.bl true) := by
    show ((seqL st (.lst _)).bind fun ys => (blsOf ys).map fun ns => D.bl (ns.all id)) = _
    simp only [seqL, Option.bind_some, bls_gen, Option.map_some, hall]
  simp only [cellD] at e2 ⊢
  simp only [b_is_fill]
  generalize hZ : ((f.zip s).map fun p => D.tup [.int p.1, .int p.2]) = Z at *
  generalize hB : ((f.zip s).map fun p => D.bl (isF 0 p.2 (.int p.1))) = B at *
  have hZl : Z.length ≤ 1000000 := by rw [← hZ, List.length_map]; exact hz
  simp [z, hl, hZl, e2, e3]
end SH
set_option Elab.async false
set_option linter.all false
set_option maxRecDepth 100000
set_option autoImplicit false
namespace SH
open PySem PySem.Spec L2 DL
theorem hts_ints : ∀ ns : List Int, D.hts (ns.map .int) = some 0
  | [] => rfl
  | n :: ns => by simp [D.hts, D.ht, hts_ints ns]
theorem ne_nil (st : Sto) (ns : List Int) : neD st (.lst (ns.map .int)) (.lst []) = some (.bl (!ns.isEmpty)) := by
  cases ns with
  | nil => simp [neD, eqB, D.see, seqL, D.ht, D.hts, D.eqb, D.eqbs]
  | cons n ns => simp [neD, eqB, D.see, seqL, D.ht, D.hts, D.eqb, D.eqbs, hts_ints ns]
/-- the store: the stream [cells, at, rest, turn], other things -/
structure Strm (n : Nat) (tl st : Sto) : Prop where
  ex : ∃ (cells : List Int) (a : Nat) (rest : Int) (t : Nat), st = .lst [.lst (cells.map .int), .int a, .int rest, .int t] :: tl ∧ cells.length ≤ 1000 ∧ t ≤ n
theorem Strm.mono {n m : Nat} {tl st : Sto} (h : Strm n tl st) (hm : n ≤ m) : Strm m tl st := by
  obtain ⟨a, b, c, d, e, h1, h2⟩ := h.ex
  exact ⟨a, b, c, d, e, h1, by omega⟩
theorem pow_10_18 (st : Sto) : powD st (.int 10) (.int 18) = some (.int 1000000000000000000) := by rw [pow_int' (by decide)]; rfl
theorem m_take {n : Nat} {tl st : Sto} (h : Strm n tl st) (hn : n ≤ 100000000) (below : Int) (h1 : 1 ≤ below) (h2 : below ≤ 10000000000000) : ∃ r st', c_take [.ref 0, .int below] st = .val (.int r) st' ∧ 0 ≤ r ∧ r < below ∧ Strm (n + 1) tl st' := by
  obtain ⟨cells, a, rest, t, rfl, e1, e2⟩ := h.ex
  rw [e_take]
  have hd : (0 : Int) < below := by omega
  have hm0 : below ≤ 1000000000000000000 := by omega
  have i1 : ixN 4 1 = some 1 := by decide
  have i2 : ixN 4 2 = some 2 := by decide
  have i3 : ixN 4 3 = some 3 := by decide
  have hcl : cells.length ≤ 1000000 := by omega
  -- what rest is now, where the stream stands
  have key : ∀ (a' : Nat) (rest' : Int), ∃ r st', finB (seq1 (seqS (asgS (bin fdivD (var 4) (var 1)) (subG (var 0) (con (.int 2))))
  (seqS (ifS (asT (bin gtD (var 4) (con (.int 0)))) (retS (bin modD (var 4) (var 1))) nextS)
  (seqS (asgS (bin modD (bin powD (bin addD (bin mulD (var 5) (con (.int 48271))) (con (.int 12345))) (con (.int 3))) (con (.int 2305843009213693951))) (nameG 6))
  (seqS (ifS (asT (bin neD (var 2) (lstE nilA))) (asgS (bin addD (var 6) (bin mulD (bin modD (bin ixD (var 2) (bin modD (bin mulD (var 5) (con (.int 7))) (callV lenD (consA (var 2) nilA)))) (con (.int 2305843009213693951))) (bin addD (var 5) (con (.int 3))))) (nameG 6)) nextS)
  (seqS (asgS (bin modD (var 6) (con (.int 2305843009213693951))) (nameG 6))
  (retS (bin modD (bin fdivD (bin modD (bin mulD (var 6) (var 6)) (con (.int 2305843009213693951))) (con (.int 16))) (var 1)))))))) (.nx [some (.ref 0), some (.int below), some (.lst (cells.map .int)), some (.int a), some (.int rest'), some (.int t), none] (.lst [.lst (cells.map .int), .int a', .int rest, .int (t + 1)] :: tl))) = .val (.int r) st' ∧ 0 ≤ r ∧ r < below ∧ Strm (n + 1) tl st' := by
    intro a' rest'
    have m1 : (t : Int) * 48271 = (t : Int) * 48271 := rfl
    have p1 : powD (.lst [.lst (cells.map .int), .int a', .int (rest' / below), .int (t + 1)] :: tl) (.int ((t : Int) * 48271 + 12345)) (.int 3) = some (.int (((t : Int) * 48271 + 12345) ^ 3)) := pow_int' (by omega)
    by_cases c0 : 0 < rest'
    · refine ⟨_, _, (by simp [i2, hd, hm0, fdiv_ok', c0]; first | exact ⟨rfl, rfl⟩ | rfl), Int.emod_nonneg _ (by omega), Int.emod_lt_of_pos _ hd, cells, a', _, t + 1, rfl, e1, by omega⟩
    · have en := fun st : Sto => ne_nil st cells
      cases hc : cells with
      | nil =>
        subst hc
        have en' := fun st : Sto => ne_nil st []
        simp only [List.map_nil, List.isEmpty_nil, Bool.not_true] at en'
        simp only [List.map_nil] at p1 ⊢
        refine ⟨_, _, (by simp [i2, hd, hm0, fdiv_ok', c0, mul_right', p1, en']; first | exact ⟨rfl, rfl⟩ | rfl), Int.emod_nonneg _ (by omega), Int.emod_lt_of_pos _ hd, [], a', _, t + 1, rfl, by simp, by omega⟩
      | cons c0' cs =>
        have hlen : 0 < cells.length := by rw [hc]; simp
        have hk : t * 7 % cells.length < cells.length := Nat.mod_lt _ hlen
        obtain ⟨x, hx⟩ : ∃ x, cells[t * 7 % cells.length]? = some x := ⟨cells[t * 7 % cells.length], by simp [hk]⟩
        have hx' : atI (cells.map D.int) ((t : Int) * 7 % (cells.length : Int)) = some (.int x) := by
          have e : (t : Int) * 7 % (cells.length : Int) = ((t * 7 % cells.length : Nat) : Int) := by rw [Int.natCast_emod]; rfl
          rw [e]
          exact atI_nat (by rw [List.getElem?_map, hx]; rfl)
        have hem : cells.isEmpty = false := by rw [hc]; rfl
        rw [hem] at en
        rw [← hc]
        refine ⟨_, _, (by simp [i2, hd, hm0, fdiv_ok', c0, mul_right', p1, en, hlen, hx']; first | exact ⟨rfl, rfl⟩ | rfl), Int.emod_nonneg _ (by omega), Int.emod_lt_of_pos _ hd, cells, a', _, t + 1, rfl, e1, by omega⟩
  simp only [b_take]
  by_cases c1 : rest = 0
  · by_cases c2 : a < cells.length
    · obtain ⟨x, hx⟩ : ∃ x, cells[a]? = some x := ⟨cells[a], by simp [c2]⟩
      have hx' : atI (cells.map D.int) (a : Int) = some (.int x) := atI_nat (by rw [List.getElem?_map, hx]; rfl)
      have c2' : (a : Int) < cells.length := by omega
      obtain ⟨r, st', e, q⟩ := key (a + 1) (x * (if 1000000000000000000 ≤ x then 1 else 0))
      refine ⟨r, st', ?_, q⟩
      rw [← e]
      by_cases c3 : (1000000000000000000 : Int) ≤ x
      · simp [i1, i3, c1, c2, c2', hx', pow_10_18, c3, mul_right']
      · simp [i1, i3, c1, c2, c2', hx', pow_10_18, c3, mul_right']
    · have c2' : ¬ (a : Int) < cells.length := by omega
      obtain ⟨r, st', e, q⟩ := key a rest
      refine ⟨r, st', ?_, q⟩
      rw [← e]
      simp [i3, c1, c2, c2']
  · obtain ⟨r, st', e, q⟩ := key a rest
    have c1' : (rest == 0) = false := by simpa using c1
    refine ⟨r, st', ?_, q⟩
    rw [← e]
    simp [i3, c1']
theorem pow_10_9 (st : Sto) : powD st (.int 10) (.int 9) = some (.int 1000000000) := by rw [pow_int' (by decide)]; rfl
theorem pow_10_11 (st : Sto) : powD st (.int 10) (.int 11) = some (.int 100000000000) := by rw [pow_int' (by decide)]; rfl
theorem pow_10_12 (st : Sto) : powD st (.int 10) (.int 12) = some (.int 1000000000000) := by rw [pow_int' (by decide)]; rfl
theorem at_mem {α : Type} {xs : List α} {r : Int} (h0 : 0 ≤ r) (h1 : r < xs.length) : ∃ x, atI xs r = some x ∧ x ∈ xs := by
  obtain ⟨k, rfl⟩ := Int.eq_ofNat_of_zero_le h0
  have hk : k < xs.length := by omega
  have hx : xs[k]? = some xs[k] := by simp [hk]
  exact ⟨xs[k], atI_nat hx, List.mem_of_getElem? hx⟩
theorem m_far {n : Nat} {tl st : Sto} (h : Strm n tl st) (hn : n ≤ 90000000) (most : Int) (h1 : 1 ≤ most) (h2 : most ≤ 2000000000000) : ∃ r st', c_far [.ref 0, .int most] st = .val (.int r) st' ∧ 0 ≤ r ∧ r < most ∧ Strm (n + 3) tl st' := by
  obtain ⟨a, st1, e1, a0, a1, d1⟩ := m_take h (by omega) 4 (by decide) (by decide)
  obtain ⟨b, eb, hb⟩ := at_mem (xs := [D.int most, .int 10, .int 1000, .int 1000000000]) a0 (by simpa using a1)
  obtain ⟨bi, rfl, hb1⟩ : ∃ bi : Int, b = .int bi ∧ 1 ≤ bi := by
    simp only [List.mem_cons, List.not_mem_nil, or_false] at hb
    rcases hb with rfl | rfl | rfl | rfl
    · exact ⟨_, rfl, h1⟩
    · exact ⟨_, rfl, by decide⟩
    · exact ⟨_, rfl, by decide⟩
    · exact ⟨_, rfl, by decide⟩
  obtain ⟨mn, hmn, g1, g2⟩ : ∃ mn : Int, (if bi < most then bi else most) = mn ∧ 1 ≤ mn ∧ mn ≤ most := ⟨_, rfl, by split <;> omega, by split <;> omega⟩
  obtain ⟨f, st2, e2, f0, f1, d2⟩ := m_take d1 (by omega) mn g1 (by omega)
  obtain ⟨c, st3, e3, c0, c1, d3⟩ := m_take d2 (by omega) 4 (by decide) (by decide)
  rw [e_far]
  by_cases hc : c = 0
  · have hc' : (c == 0) = true := by simpa using hc
    refine ⟨most - 1 - f, st3, ?_, by omega, by omega, d3⟩
    simp [b_far, e1, eb, hmn, e2, e3, hc', pow_10_9, hc]
  · have hc' : (c == 0) = false := by simpa using hc
    refine ⟨f, st3, ?_, by omega, by omega, d3⟩
    simp [b_far, e1, eb, hmn, e2, e3, hc', pow_10_9, hc]
end SH
set_option Elab.async false
set_option linter.all false
set_option maxRecDepth 100000
set_option autoImplicit false
namespace SH
open PySem PySem.Spec L2 DL TL
/-- the text of a number -/
def numS (n : Nat) : Str := Str.ofString (toString ((n : Nat) : Int))
theorem numS_tl (n : Nat) : (numS n).cps.toList = numL n := tl_num n
theorem numS_len (n : Nat) : (numS n).length = (numL n).length := by
  rw [← numS_tl]; rfl
theorem num_head : ∀ (n : Nat), 1 ≤ n → ∃ h r, numL n = h :: r ∧ h ≠ 48 := by
  intro n
  induction n using Nat.strongRecOn with
  | _ n ih =>
    intro h1
    by_cases c : n < 10
    · exact ⟨48 + n, [], numL_lt c, by omega⟩
    · obtain ⟨h, r, e, hh⟩ := ih (n / 10) (by omega) (by omega)
      exact ⟨h, r ++ [48 + n % 10], by rw [numL_step (by omega), e]; rfl, hh⟩
theorem takeWhile_all {α : Type} (p : α → Bool) : ∀ l : List α, (∀ x ∈ l, p x = true) → l.takeWhile p = l
  | [], _ => rfl
  | x :: l, h => by
    rw [List.takeWhile_cons, if_pos (h x List.mem_cons_self), takeWhile_all p l fun y hy => h y (List.mem_cons_of_mem _ hy)]
/-- a text of nothing but such signs is stripped of all -/
theorem strip_all (x y : Str) (h : ∀ c ∈ x.cps.toList, y.cps.contains c = true) (hx : x.cps.toList ≠ []) : Txt.stripChars x y = Str.ofString "" := by
  have hlen : x.length = x.cps.toList.length := rfl
  have hpos : 0 < x.cps.toList.length := List.length_pos_iff.mpr hx
  have lo : stripLo y.cps.contains true x = x.length := by
    unfold stripLo
    rw [if_pos rfl, takeWhile_all _ _ h, hlen]
  have ns : stripSame y.cps.contains true true x = false := by
    unfold stripSame
    rw [lo]
    have : (x.length == 0) = false := by rw [hlen]; simpa using (by omega : x.cps.toList.length ≠ 0)
    rw [this]; rfl
  unfold Txt.stripChars Txt.stripBy
  rw [ns, if_neg Bool.false_ne_true]
  unfold stripped
  rw [lo]
  have hi : stripHi y.cps.contains true x x.length = x.length := by
    unfold stripHi
    rw [if_pos rfl, hlen, List.drop_length]
    rfl
  rw [hi]
  unfold Builtin.Str.strSub
  have : x.cps.extract x.length x.length = #[] := by simp; omega
  rw [this]
  rfl
theorem figures (c : Nat) (h : 48 ≤ c ∧ c ≤ 57) : (PySem.Str.ofString "0123456789").cps.contains c = true := by
  obtain ⟨h1, h2⟩ := h
  have : c = 48 ∨ c = 49 ∨ c = 50 ∨ c = 51 ∨ c = 52 ∨ c = 53 ∨ c = 54 ∨ c = 55 ∨ c = 56 ∨ c = 57 := by omega
  rcases this with rfl | rfl | rfl | rfl | rfl | rfl | rfl | rfl | rfl | rfl <;> decide +kernel
theorem num_small {n : Nat} (h : n ≤ 1000000000000) : 1 ≤ (numL n).length ∧ (numL n).length ≤ 13 := by
  refine ⟨?_, numL_len (by decide) (by omega)⟩
  have := List.length_pos_iff.mpr (numL_ne n)
  omega
theorem m_number_told {n : Nat} (h : n ≤ 1000000000000) (st : Sto) : c_number_told [.str (numS n)] st = .val (.int n) st := by
  obtain ⟨l1, l2⟩ := num_small h
  have hl := numS_len n
  have e1 : intX st [.str (numS n)] = some (.int n) := by
    show (intD st [.str (numS n)]).or (intSD st [.str (numS n)]) = _
    have a : intD st [.str (numS n)] = none := rfl
    have b : intSD st [.str (numS n)] = some (.int n) := by
      show (if decide ((numS n).length ≤ 640) = true then (PySem.intText? (numS n)).map D.int else none) = _
      rw [if_pos (decide_eq_true (by omega)), show PySem.intText? (numS n) = some (n : Int) from int_num (by omega)]
      rfl
    rw [a, b]; rfl
  have e2 : Txt.stripChars (numS n) (PySem.Str.ofString "0123456789") = PySem.Str.ofString "" := by
    refine strip_all _ _ (fun c hc => ?_) (by rw [numS_tl]; exact numL_ne n)
    rw [numS_tl] at hc
    exact figures c (numL_digits n c hc)
  have b1 : (numS n).length ≤ 1000000 := by omega
  have c1 : (1 : Int) ≤ (numS n).length := by omega
  have c2 : ((numS n).length : Int) ≤ 13 := by omega
  rw [e_number_told]
  simp only [b_number_told]
  by_cases c3 : 1 < (numS n).length
  · have hn : 1 ≤ n := by
      by_cases z : n = 0
      · subst z
        rw [hl, numL_lt (by decide)] at c3
        simp at c3
      · omega
    obtain ⟨hd, r, e, hh⟩ := num_head n hn
    have e3 : atI (numS n).cps.toList 0 = some hd := by rw [numS_tl, e]; exact at_0 hd r
    have e4 : ixD st (.str (numS n)) (.int 0) = some (.str ⟨#[hd]⟩) := by
      show (if big (numS n).length = true then (atI (numS n).cps.toList 0).map fun c => D.str ⟨#[c]⟩ else none) = _
      rw [if_pos (big_of b1), e3]
      rfl
    have e5 : ((⟨#[hd]⟩ : Str) == PySem.Str.ofString "0") = false := by
      rw [beq_eq_false_iff_ne]
      intro z
      have : (⟨#[hd]⟩ : Str).cps.toList = (PySem.Str.ofString "0").cps.toList := by rw [z]
      have w : (PySem.Str.ofString "0").cps.toList = [48] := by decide +kernel
      rw [w] at this
      exact hh (by simpa using this)
    have c3' : (1 : Int) < (numS n).length := by omega
    simp [b1, c1, c2, e2, c3', e4, e5, e1]
  · have c3' : ¬ (1 : Int) < (numS n).length := by omega
    simp [b1, c1, c2, e2, c3', e1]
end SH
set_option Elab.async false
set_option linter.all false
set_option maxRecDepth 100000
set_option autoImplicit false
namespace SH
open PySem PySem.Spec L2 DL TL
/-- a fill as a value -/
def fillD (f : List Nat) : D := .tup (f.map fun n : Nat => D.int (n : Nat))
def sp : Str := PySem.Str.ofString " "
theorem str_num {n : Nat} (h : n ≤ 1000000000000) (st : Sto) : strD st [.int (n : Int)] = some (.str (numS n)) := by
  show (if decide ((n : Int).natAbs.log2 < 1920) = true then some (D.str (toString (n : Int))) else none) = _
  have : (n : Int).natAbs.log2 < 1920 := by
    simp only [Int.natAbs_natCast]
    by_cases c : n = 0
    · subst c; decide
    · have := (Nat.log2_lt (n := n) c (k := 41)).mpr (by omega)
      omega
  rw [if_pos (decide_eq_true this)]
  rfl
theorem m_numbers_text (f : List Nat) (hf : ∀ n ∈ f, n ≤ 1000000000000) (hl : f.length ≤ 1000) (st : Sto) : c_numbers_text [fillD f] st = .val (.str (Txt.join sp (f.map numS))) st := by
  rw [e_numbers_text]
  have lc : lcL (slot1 1) yesT (callV strD (consA (var 1) nilA)) [some (fillD f), none] (f.map fun n : Nat => D.int (n : Nat)) [] st = .val ((f.map numS).map .str) st := by
    rw [lc_map1 (fun d => match d with | .int i => .str (numS i.toNat) | _ => .non) _ [] (fun d hd => ?_)]
    · rw [List.nil_append, List.map_map, List.map_map]
      rfl
    · obtain ⟨n, hn, rfl⟩ := List.mem_map.mp hd
      simp [str_num (hf n hn)]
  have hs : ((f.map numS).map (·.length)).sum ≤ 13 * f.length := by
    clear lc hl
    induction f with
    | nil => simp
    | cons n f ih =>
      have := (num_small (hf n List.mem_cons_self)).2
      have e := numS_len n
      have := ih fun m hm => hf m (List.mem_cons_of_mem _ hm)
      simp only [List.map_cons, List.sum_cons, List.length_cons]
      omega
  have hj : joinM st (.str sp) [.lst ((f.map numS).map .str)] = some (.str (Txt.join sp (f.map numS)), st) := by
    rw [join_lst', if_pos (big_of (by
      have : sp.length = 1 := by decide +kernel
      rw [this, List.length_map]
      omega))]
  have hfl : f.length ≤ 1000000 := by omega
  simp only [fillD] at lc ⊢
  generalize ((f.map numS).map D.str) = B at *
  have hsp : PySem.Str.ofString " " = sp := rfl
  simp [b_numbers_text, hfl, lc, hsp, hj]
end SH
set_option Elab.async false
set_option linter.all false
set_option maxRecDepth 100000
set_option autoImplicit false
namespace SH
open PySem PySem.Spec L2 DL TL
theorem m_numbers_told (f : List Nat) (hf : ∀ n ∈ f, n ≤ 1000000000000) (hl : f.length ≤ 1000) (st : Sto) : c_numbers_told [.lst ((f.map numS).map .str)] st = .val (fillD f) st := by
  rw [e_numbers_told]
  have lc : ∀ (g : List Nat) (acc : List D) (r0 : DL.Env), (∀ n ∈ g, n ≤ 1000000000000) → 1 < r0.length → lcL (slot1 1) yesT (callE (arity 1 c_number_told) (consA (var 1) nilA)) r0 ((g.map numS).map D.str) acc st = .val (acc ++ g.map fun n : Nat => D.int (n : Nat)) st := by
    intro g
    induction g with
    | nil => intro acc r0 _ _; simp
    | cons n g ih =>
      intro acc r0 hg hr
      have e := m_number_told (hg n List.mem_cons_self) st
      simp only [List.map_cons, lcL_cons1, yesT_ap, lcA_0]
      have v : (r0.set 1 (some (D.str (numS n))))[1]? = some (some (D.str (numS n))) := by rw [List.getElem?_set_self hr]
      have i := ih (acc ++ [.int n]) r0 (fun m hm => hg m (List.mem_cons_of_mem _ hm)) hr
      simp [v, e, -List.map_map]
      rw [i]
      simp
  have e := lc f [] [some (.lst ((f.map numS).map .str)), none] hf (by simp)
  have hfl : ((f.map numS).map D.str).length ≤ 1000000 := by simp; omega
  simp only [fillD]
  generalize ((f.map numS).map D.str) = B at *
  simp [b_numbers_told, hfl, e]
end SH
set_option Elab.async false
set_option linter.all false
set_option maxRecDepth 100000
set_option autoImplicit false
namespace SH
open PySem PySem.Spec L2 DL
theorem Strm.push {n : Nat} {tl st : Sto} (h : Strm n tl st) (o : SO) : Strm n (tl ++ [o]) (st ++ [o]) := by
  obtain ⟨a, b, c, d, rfl, e⟩ := h.ex
  exact ⟨a, b, c, d, rfl, e⟩
theorem Strm.len {n : Nat} {tl st : Sto} (h : Strm n tl st) : st.length = tl.length + 1 := by
  obtain ⟨a, b, c, d, rfl, _⟩ := h.ex
  rfl
theorem Strm.get {n : Nat} {tl st : Sto} (h : Strm n tl st) (i : Nat) : st[i + 1]? = tl[i]? := by
  obtain ⟨a, b, c, d, rfl, _⟩ := h.ex
  rfl
theorem Strm.put {n : Nat} {tl st : Sto} (h : Strm n tl st) (i : Nat) (o : SO) : Strm n (tl.set i o) (st.set (i + 1) o) := by
  obtain ⟨a, b, c, d, rfl, e⟩ := h.ex
  exact ⟨a, b, c, d, rfl, e⟩
theorem Strm.pop {n : Nat} {tl tl2 st : Sto} (h : Strm n (tl ++ tl2) st) : Strm n tl (st.take (tl.length + 1)) := by
  obtain ⟨a, b, c, d, rfl, e⟩ := h.ex
  refine ⟨a, b, c, d, ?_, e⟩
  rw [List.take_succ_cons, List.take_left]
theorem Strm.under {n : Nat} {tl tl2 st : Sto} (h : Strm n (tl ++ tl2) st) (hu : ∀ o ∈ tl, SO.under (tl.length + 1) o = true) : (st.take (tl.length + 1)).all (SO.under (tl.length + 1)) = true := by
  obtain ⟨a, b, c, d, rfl, e⟩ := h.ex
  rw [List.take_succ_cons, List.take_left, List.all_cons]
  have : SO.under (tl.length + 1) (.lst [.lst (a.map .int), .int b, .int c, .int d]) = true := by simp [SO.under, D.underAll, D.under, under_ints]
  rw [this, Bool.true_and, List.all_eq_true]
  exact hu
/-- a ladle of the drawn cellar -/
def LadOk (ring : Bool) (x : Int) : Prop := 1 ≤ x ∧ x ≤ 500000000000 ∧ (ring = true → x.toNat ∣ 840)
theorem wheel_ok {x : D} (h : x ∈ [D.int 1, .int 2, .int 3, .int 4, .int 5, .int 6, .int 7, .int 8, .int 10, .int 12, .int 35, .int 56, .int 84, .int 105, .int 420, .int 840]) : ∃ i : Int, x = .int i ∧ LadOk true i := by
  simp only [List.mem_cons, List.not_mem_nil, or_false] at h
  rcases h with rfl | rfl | rfl | rfl | rfl | rfl | rfl | rfl | rfl | rfl | rfl | rfl | rfl | rfl | rfl | rfl <;> exact ⟨_, rfl, by decide, by decide, fun _ => by decide⟩
def wheelsD : D := .lst [.int 1, .int 2, .int 3, .int 4, .int 5, .int 6, .int 7, .int 8, .int 10, .int 12, .int 35, .int 56, .int 84, .int 105, .int 420, .int 840]
def ladE : DX D := bin ixD (lstE (consA (bin addD (con (.int 1)) (callE (arity 2 c_far) (consA (var 0) (consA (bin mulD (con (.int 5)) (bin powD (con (.int 10)) (con (.int 11)))) nilA)))) (consA (bin ixD (var 3) (callE (arity 2 c_take) (consA (var 0) (consA (con (.int 16)) nilA)))) nilA))) (callV intX (consA (var 1) nilA))
def nearE : DX D := lcE (itemsI (lstE (consA (bin subD (var 7) (con (.int 1))) (consA (var 7) nilA)))) (slot1 5) [5] (orT (asT (var 1)) (asT (chain leD ltD (con (.int 0)) (var 5) (callV lenD (consA (var 4) nilA))))) (bin ixD (var 4) (var 5))
def leastE : DX D := callV maxD (consA (bin addD (lstE (consA (con (.int 1)) nilA)) (var 8)) nilA)
def sizeE : DX D := bin addD (var 9) (callE (arity 2 c_far) (consA (var 0) (consA (bin addD (bin subD (bin powD (con (.int 10)) (con (.int 12))) (var 9)) (con (.int 1))) nilA)))
theorem s_lad {n : Nat} {tl st : Sto} (h : Strm n tl st) (hn : n ≤ 80000000) (ring : Bool) (x2 x4 x5 x6 x7 x8 x9 : Option D) : ∃ (l : Int) (st' : Sto), ladE [some (.ref 0), some (.bl ring), x2, some wheelsD, x4, x5, x6, x7, x8, x9] st = .val (.int l) st' ∧ LadOk ring l ∧ Strm (n + 4) tl st' := by
  obtain ⟨a, st1, e1, a0, a1, d1⟩ := m_far h (by omega) 500000000000 (by decide) (by decide)
  obtain ⟨b, st2, e2, b0, b1, d2⟩ := m_take d1 (by omega) 16 (by decide) (by decide)
  obtain ⟨w, ew, hw⟩ := at_mem (xs := [D.int 1, .int 2, .int 3, .int 4, .int 5, .int 6, .int 7, .int 8, .int 10, .int 12, .int 35, .int 56, .int 84, .int 105, .int 420, .int 840]) b0 (by simpa using b1)
  obtain ⟨i, rfl, hi⟩ := wheel_ok hw
  have p : mulD st (.int 5) (.int 100000000000) = some (.int 500000000000) := by rw [mul_right' (by decide) (by decide)]; rfl
  cases ring with
  | false =>
    refine ⟨1 + a, st2, ?_, ⟨by omega, by omega, fun z => Bool.noConfusion z⟩, d2⟩
    simp [ladE, wheelsD, pow_10_11, p, e1, e2, ew]
  | true =>
    refine ⟨i, st2, ?_, hi, d2⟩
    simp [ladE, wheelsD, pow_10_11, p, e1, e2, ew]
/-- the ladles beside a vessel -/
theorem s_near (ring : Bool) (ls : List Int) (many v : Nat) (hv : v < many) (hm : many ≤ 100) (hl : if ring then ls.length = many ∧ 2 ≤ many else ls.length + 1 = many) (hls : ∀ l ∈ ls, 1 ≤ l ∧ l ≤ 500000000000) (i : Nat) (st : Sto) (hi : st[i]? = some (.lst (ls.map .int))) (x0 x2 x3 x5 x6 x8 x9 : Option D) :
    ∃ N : List Int, nearE [x0, some (.bl ring), x2, x3, some (.ref i), x5, x6, some (.int v), x8, x9] st = .val (.lst (N.map .int)) st ∧ N.length ≤ 2 ∧ (∀ x ∈ N, 1 ≤ x ∧ x ≤ 500000000000) ∧ ∀ (k : Nat) (w : Int), ls[k]? = some w → (k = v ∨ (k + 1) % many = v) → w ∈ N := by
  have get : ∀ k : Nat, k < ls.length → ∃ x, ls[k]? = some x ∧ x ∈ ls := fun k hk => ⟨ls[k], by simp [hk], List.getElem_mem hk⟩
  cases ring with
  | true =>
    simp only [if_true] at hl
    obtain ⟨y, hy, my⟩ := get v (by omega)
    have ay : atI (ls.map D.int) (v : Int) = some (.int y) := atI_map hy
    have key : ∃ (j : Nat) (x : Int), ls[j]? = some x ∧ atI (ls.map D.int) ((v : Int) - 1) = some (.int x) ∧ ∀ k : Nat, k < ls.length → (k + 1) % many = v → k = j := by
      by_cases c : v = 0
      · subst c
        obtain ⟨x, hx, mx⟩ := get (ls.length - 1) (by omega)
        refine ⟨ls.length - 1, x, hx, ?_, fun k hk e => ?_⟩
        · have e : (((0 : Nat) : Int) - 1) = -1 := by decide
          rw [e]
          exact at_last (by rw [List.length_map, List.getElem?_map, hx]; rfl)
        · by_cases c2 : k + 1 < many
          · rw [Nat.mod_eq_of_lt c2] at e; omega
          · omega
      · obtain ⟨x, hx, mx⟩ := get (v - 1) (by omega)
        refine ⟨v - 1, x, hx, ?_, fun k hk e => ?_⟩
        · have e : (v : Int) - 1 = ((v - 1 : Nat) : Int) := by omega
          rw [e]
          exact atI_map hx
        · by_cases c2 : k + 1 < many
          · rw [Nat.mod_eq_of_lt c2] at e; omega
          · have : k + 1 = many := by omega
            rw [this, Nat.mod_self] at e; omega
    obtain ⟨j, x, hx, ax, hk⟩ := key
    refine ⟨[x, y], ?_, by simp, ?_, ?_⟩
    · simp [nearE, hi, ax, ay]
    · intro z hz
      simp only [List.mem_cons, List.not_mem_nil, or_false] at hz
      rcases hz with rfl | rfl
      · exact hls _ (List.mem_of_getElem? hx)
      · exact hls _ my
    · intro k w hw hkv
      rcases hkv with rfl | hkv
      · rw [hy] at hw; cases hw; simp
      · have := hk k (List.getElem?_eq_some_iff.mp hw).1 hkv
        subst this
        rw [hx] at hw; cases hw; simp
  | false =>
    simp only [Bool.false_eq_true, if_false] at hl
    have nk : ∀ (k : Nat) (w : Int), ls[k]? = some w → (k + 1) % many = v → k + 1 = v := by
      intro k w hw e
      have := (List.getElem?_eq_some_iff.mp hw).1
      rw [Nat.mod_eq_of_lt (by omega)] at e
      exact e
    by_cases c0 : v = 0
    · subst c0
      by_cases c1 : 0 < ls.length
      · obtain ⟨y, hy, my⟩ := get 0 c1
        have ay : atI (ls.map D.int) 0 = some (.int y) := atI_map hy
        refine ⟨[y], ?_, by simp, ?_, ?_⟩
        · simp [nearE, hi, ay, c1]
        · intro z hz
          simp only [List.mem_cons, List.not_mem_nil, or_false] at hz
          subst hz
          exact hls _ my
        · intro k w hw hkv
          rcases hkv with rfl | hkv
          · rw [hy] at hw; cases hw; simp
          · have := nk k w hw hkv; omega
      · have e : ls = [] := List.eq_nil_of_length_eq_zero (by omega)
        subst e
        refine ⟨[], ?_, by simp, by simp, fun k w hw => by simp at hw⟩
        simp [nearE, hi]
    · obtain ⟨x, hx, mx⟩ := get (v - 1) (by omega)
      have ex : (v : Int) - 1 = ((v - 1 : Nat) : Int) := by omega
      have ax : atI (ls.map D.int) ((v : Int) - 1) = some (.int x) := by rw [ex]; exact atI_map hx
      have t1 : (0 : Int) ≤ (v : Int) - 1 := by omega
      have t2 : (v : Int) - 1 < ls.length := by omega
      have t3 : (1 : Int) ≤ (v : Int) := by omega
      by_cases c1 : v < ls.length
      · obtain ⟨y, hy, my⟩ := get v c1
        have ay : atI (ls.map D.int) (v : Int) = some (.int y) := atI_map hy
        refine ⟨[x, y], ?_, by simp, ?_, ?_⟩
        · simp [nearE, hi, ax, ay, t1, t2, t3, c1]
        · intro z hz
          simp only [List.mem_cons, List.not_mem_nil, or_false] at hz
          rcases hz with rfl | rfl
          · exact hls _ mx
          · exact hls _ my
        · intro k w hw hkv
          rcases hkv with rfl | hkv
          · rw [hy] at hw; cases hw; simp
          · have : k = v - 1 := by have := nk k w hw hkv; omega
            subst this
            rw [hx] at hw; cases hw; simp
      · have c2 : ¬ (v : Int) < ls.length := by omega
        refine ⟨[x], ?_, by simp, ?_, ?_⟩
        · simp [nearE, hi, ax, t1, t2, t3, c1]
        · intro z hz
          simp only [List.mem_cons, List.not_mem_nil, or_false] at hz
          subst hz
          exact hls _ mx
        · intro k w hw hkv
          rcases hkv with rfl | hkv
          · exact absurd (List.getElem?_eq_some_iff.mp hw).1 c1
          · have : k = v - 1 := by have := nk k w hw hkv; omega
            subst this
            rw [hx] at hw; cases hw; simp
end SH
set_option Elab.async false
set_option linter.all false
set_option maxRecDepth 100000
set_option autoImplicit false
namespace SH
open PySem PySem.Spec L2 DL
theorem s_least (N : List Int) (hN : ∀ x ∈ N, 1 ≤ x ∧ x ≤ 500000000000) (h2 : N.length ≤ 2) (st : Sto) (x0 x1 x2 x3 x4 x5 x6 x7 x9 : Option D) :
    ∃ m : Int, leastE [x0, x1, x2, x3, x4, x5, x6, x7, some (.lst (N.map .int)), x9] st = .val (.int m) st ∧ 1 ≤ m ∧ m ≤ 500000000000 ∧ ∀ x ∈ N, x ≤ m := by
  obtain ⟨m, em, m1, m2, m3⟩ := max_of 1 N
  have hm : m ≤ 500000000000 := by
    rcases m1 with rfl | m1
    · decide
    · exact (hN m m1).2
  refine ⟨m, ?_, m2, hm, m3⟩
  have h2' : N.length + 1 ≤ 1000000 := by omega
  have e : maxD st [.lst (.int 1 :: N.map D.int)] = some (.int m) := by
    show ((seqL st (.lst (.int 1 :: N.map D.int))).bind fun ys => (intsOf ys).bind fun ns => (maxI ns).map D.int) = some (D.int m)
    simp only [seqL, Option.bind_some]
    rw [show (D.int 1 :: N.map D.int) = (1 :: N).map D.int from rfl, ints_map]
    simp [em]
  simp [leastE, h2', e, Nat.add_comm 1]
theorem s_size {n : Nat} {tl st : Sto} (h : Strm n tl st) (hn : n ≤ 80000000) (m : Int) (h1 : 1 ≤ m) (h2 : m ≤ 500000000000) (x1 x2 x3 x4 x5 x6 x7 x8 : Option D) :
    ∃ (x : Int) (st' : Sto), sizeE [some (.ref 0), x1, x2, x3, x4, x5, x6, x7, x8, some (.int m)] st = .val (.int x) st' ∧ m ≤ x ∧ x ≤ 1000000000000 ∧ Strm (n + 3) tl st' := by
  obtain ⟨a, st1, e1, a0, a1, d1⟩ := m_far h (by omega) (1000000000000 - m + 1) (by omega) (by omega)
  exact ⟨m + a, st1, by simp [sizeE, pow_10_12, e1], by omega, by omega, d1⟩
theorem lcm_small (ring : Bool) (ls : List Int) (h : ∀ l ∈ ls, LadOk ring l) : ring = true → lcmL ls ≤ 840 := by
  intro r
  exact (small_iff ls fun x hx => (h x hx).1).mpr ⟨840, by decide, by decide, fun x hx => (h x hx).2.2 r⟩
theorem m_lcell {n : Nat} {tl st : Sto} (h : Strm n tl st) (hn : n ≤ 10000000) (hu : ∀ o ∈ tl, SO.under (tl.length + 1) o = true) :
    ∃ (ring : Bool) (s l : List Int) (st' : Sto), c_lcell [.ref 0] st = .val (cellD ring s l) st' ∧ Good ring s l ∧ Strm (n + 100) tl st' := by
  have hlen := h.len
  obtain ⟨a, st1, e1, a0, a1, d1⟩ := m_take h (by omega) 3 (by decide) (by decide)
  obtain ⟨b, st2, e2, b0, b1, d2⟩ := m_take d1 (by omega) 12 (by decide) (by decide)
  obtain ⟨c, st3, e3, c0, c1, d3⟩ := m_take d2 (by omega) 5 (by decide) (by decide)
  obtain ⟨ring, hring⟩ : ∃ ring : Bool, (a == 0) = ring := ⟨_, rfl⟩
  obtain ⟨b, rfl⟩ := Int.eq_ofNat_of_zero_le b0
  obtain ⟨c, rfl⟩ := Int.eq_ofNat_of_zero_le c0
  obtain ⟨many, hmany, hm1, hm2, hm3⟩ : ∃ many : Nat, atI [D.int (1 + (b : Int)), .int (2 + (c : Int))] (if ring = true then 1 else 0) = some (.int (many : Nat)) ∧ 1 ≤ many ∧ many ≤ 12 ∧ (ring = true → 2 ≤ many ∧ many ≤ 6) := by
    cases ring with
    | true => exact ⟨2 + c, by simp, by omega, by omega, fun _ => by omega⟩
    | false => exact ⟨1 + b, by simp, by omega, by omega, fun z => Bool.noConfusion z⟩
  obtain ⟨cnt, hcnt, hcnt2⟩ : ∃ cnt : Nat, (many : Int) - (if (!ring) = true then 1 else 0) = (cnt : Int) ∧ (if ring then cnt = many else cnt + 1 = many) := by
    cases ring with
    | true => exact ⟨many, by simp, by simp⟩
    | false => exact ⟨many - 1, by simp; omega, by simp; omega⟩
  have hcnt3 : cnt ≤ 12 := by
    cases ring with
    | true => simp at hcnt2; omega
    | false => simp at hcnt2; omega
  -- the ladles
  have D3 : Strm (n + 3 + 4 * 0) (tl ++ [.lst (([] : List Int).map .int)]) (st3 ++ [.lst []]) := d3.push _
  have hl3 := d3.len
  obtain ⟨r4, st4, e4, ls, x5, rfl, hlsl, hls, d4⟩ := loop_rng (g := nameG 5) (b := exprS (methE chkL appD (var 4) (consA ladE nilA))) cnt
    (fun k r st => ∃ (ls : List Int) (x5 : Option D), r = [some (.ref 0), some (.bl ring), some (.int many), some wheelsD, some (.ref (tl.length + 1)), x5, none, none, none, none] ∧ ls.length = k ∧ (∀ l ∈ ls, LadOk ring l) ∧ Strm (n + 3 + 4 * k) (tl ++ [.lst (ls.map .int)]) st)
    (by
      rintro k r st hk ⟨ls, x5, rfl, hl, hls, dd⟩
      obtain ⟨l, st', el, hl', d'⟩ := s_lad dd (by omega) ring (some (.int many)) (some (.ref (tl.length + 1))) (some (.int k)) none none none none
      have g0 := dd.get tl.length
      have g1 := d'.get tl.length
      have put := d'.put tl.length (.lst ((ls ++ [l]).map .int))
      rw [set_last] at put
      rw [List.getElem?_concat_length] at g0 g1
      have hb : ls.length + 1 ≤ 1000000 := by omega
      refine ⟨_, _, _, _, rfl, .inl (by simp [g0, el, g1, hb]; first | exact ⟨rfl, rfl⟩ | rfl), ls ++ [l], some (.int k), rfl, by simp [hl], ?_, ?_⟩
      · intro x hx
        rcases List.mem_append.mp hx with hx | hx
        · exact hls x hx
        · simp at hx; subst hx; exact hl'
      · simpa using put.mono (show n + 3 + 4 * k + 4 ≤ n + 3 + 4 * (k + 1) by omega))
    [some (.ref 0), some (.bl ring), some (.int many), some wheelsD, some (.ref (tl.length + 1)), none, none, none, none, none] (st3 ++ [.lst []]) ⟨[], none, rfl, rfl, by simp, D3⟩
  have hls' : ∀ l ∈ ls, 1 ≤ l ∧ l ≤ 500000000000 := fun l hl => ⟨(hls l hl).1, (hls l hl).2.1⟩
  have hl4 := d4.len
  -- the sizes
  have D4 : Strm (n + 60 + 3 * 0) (tl ++ [.lst (ls.map .int), .lst (([] : List Int).map .int)]) (st4 ++ [.lst []]) := by
    have := (d4.push (.lst [])).mono (show n + 3 + 4 * cnt ≤ n + 60 by omega)
    simpa using this
  have hnear : if ring then ls.length = many ∧ 2 ≤ many else ls.length + 1 = many := by
    cases ring with
    | true => have := (hm3 rfl).1; simp at hcnt2 ⊢; omega
    | false => simp at hcnt2 ⊢; omega
  obtain ⟨r5, st5, e5, ss, y5, y7, y8, y9, rfl, hssl, hss, hft, d5⟩ := loop_rng (g := nameG 7) (b := seqS (asgS nearE (nameG 8)) (seqS (asgS leastE (nameG 9)) (exprS (methE chkL appD (var 6) (consA sizeE nilA))))) many
    (fun k r st => ∃ (ss : List Int) (y5 y7 y8 y9 : Option D), r = [some (.ref 0), some (.bl ring), some (.int many), some wheelsD, some (.ref (tl.length + 1)), y5, some (.ref (tl.length + 2)), y7, y8, y9] ∧ ss.length = k ∧ (∀ x ∈ ss, 1 ≤ x ∧ x ≤ 1000000000000) ∧ (∀ (k : Nat) (w a : Int), ls[k]? = some w → (ss[k]? = some a → w ≤ a) ∧ (ss[(k + 1) % many]? = some a → w ≤ a)) ∧ Strm (n + 60 + 3 * k) (tl ++ [.lst (ls.map .int), .lst (ss.map .int)]) st)
    (by
      rintro k r st hk ⟨ss, y5, y7, y8, y9, rfl, hl, hss, hft, dd⟩
      have g0 := dd.get tl.length
      have g1 := dd.get (tl.length + 1)
      rw [get_last2] at g0
      rw [get_last3] at g1
      obtain ⟨N, eN, N1, N2, N3⟩ := s_near ring ls many k hk (by omega) hnear hls' (tl.length + 1) st g0 (some (.ref 0)) (some (.int many)) (some wheelsD) y5 (some (.ref (tl.length + 2))) y8 y9
      obtain ⟨m, em, m1, m2, m3⟩ := s_least N N2 N1 st (some (.ref 0)) (some (.bl ring)) (some (.int many)) (some wheelsD) (some (.ref (tl.length + 1))) y5 (some (.ref (tl.length + 2))) (some (.int k)) y9
      obtain ⟨x, st', ex, x1, x2, d'⟩ := s_size dd (by omega) m m1 m2 (some (.bl ring)) (some (.int many)) (some wheelsD) (some (.ref (tl.length + 1))) y5 (some (.ref (tl.length + 2))) (some (.int k)) (some (.lst (N.map .int)))
      have g2 := d'.get (tl.length + 1)
      rw [get_last3] at g2
      have put := d'.put (tl.length + 1) (.lst ((ss ++ [x]).map .int))
      rw [set_last3] at put
      have hb : ss.length + 1 ≤ 1000000 := by omega
      refine ⟨_, _, [some (.ref 0), some (.bl ring), some (.int many), some wheelsD, some (.ref (tl.length + 1)), y5, some (.ref (tl.length + 2)), some (.int k), some (.lst (N.map .int)), some (.int m)], st'.set (tl.length + 2) (.lst ((ss ++ [x]).map .int)), rfl, .inl (by simp [eN, em, g1, ex, g2, hb]), ss ++ [x], _, _, _, _, rfl, by simp [hl], ?_, ?_, ?_⟩
      · intro z hz
        rcases List.mem_append.mp hz with hz | hz
        · exact hss z hz
        · simp at hz; subst hz; exact ⟨by omega, x2⟩
      · intro j w a hw
        have old := hft j w a hw
        refine ⟨fun q => ?_, fun q => ?_⟩
        · by_cases c : j < ss.length
          · exact old.1 (by rwa [List.getElem?_append_left c] at q)
          · rw [List.getElem?_append_right (by omega)] at q
            have : j = ss.length := by
              have := (List.getElem?_eq_some_iff.mp q).1
              simp at this; omega
            subst this
            simp at q; subst q
            have := m3 w (N3 _ w hw (.inl hl))
            omega
        · by_cases c : (j + 1) % many < ss.length
          · exact old.2 (by rwa [List.getElem?_append_left c] at q)
          · rw [List.getElem?_append_right (by omega)] at q
            have e : (j + 1) % many = ss.length := by
              have := (List.getElem?_eq_some_iff.mp q).1
              simp at this; omega
            rw [e] at q
            simp at q; subst q
            have := m3 w (N3 _ w hw (.inr (by omega)))
            omega
      · simpa using put.mono (show n + 60 + 3 * k + 3 ≤ n + 60 + 3 * (k + 1) by omega))
    [some (.ref 0), some (.bl ring), some (.int many), some wheelsD, some (.ref (tl.length + 1)), x5, some (.ref (tl.length + 2)), none, none, none] (st4 ++ [.lst []]) ⟨[], _, _, _, _, rfl, rfl, by simp, fun k w a _ => by simp, D4⟩
  have hG : Good ring ss ls := by
    refine ⟨hss, hls', ?_, ?_, lcm_small ring ls hls⟩
    · cases ring with
      | true => have := hm3 rfl; simp at hcnt2 ⊢; omega
      | false => simp at hcnt2 ⊢; omega
    · intro k w x y hw hx hy
      rw [hssl] at hy
      exact ⟨(hft k w x hw).1 hx, (hft k w y hw).2 hy⟩
  have g5 := d5.get tl.length
  have g6 := d5.get (tl.length + 1)
  rw [get_last2] at g5
  rw [get_last3] at g6
  refine ⟨ring, ss, ls, st5.take (tl.length + 1), ?_, hG, (d5.mono (show n + 60 + 3 * many ≤ n + 100 by omega)).pop⟩
  have hsh : atI [D.str (PySem.Str.ofString "row"), .str (PySem.Str.ofString "ring")] (if ring = true then 1 else 0) = some (.str (shS ring)) := by cases ring <;> rfl
  have hr1 : rng1 (cnt : Int) = some (rangeD 0 cnt) := rng1_nat' (by omega)
  have hr2 : rng1 (many : Int) = some (rangeD 0 many) := rng1_nat' (by omega)
  have hl4' : st4.length = tl.length + 2 := by rw [hl4]; simp
  have body : finB (b_lcell [some (.ref 0), none, none, none, none, none, none, none, none, none] st) = .val (cellD ring ss ls) st5 := by
    have hb : b_lcell = (seqS (asgS (bin eqD (callE (arity 2 c_take) (consA (var 0) (consA (con (.int 3)) nilA))) (con (.int 0))) (nameG 1))
  (seqS (asgS (bin ixD (lstE (consA (bin addD (con (.int 1)) (callE (arity 2 c_take) (consA (var 0) (consA (con (.int 12)) nilA)))) (consA (bin addD (con (.int 2)) (callE (arity 2 c_take) (consA (var 0) (consA (con (.int 5)) nilA)))) nilA))) (callV intX (consA (var 1) nilA))) (nameG 2))
  (seqS (asgS (lstE (consA (con (.int 1)) (consA (con (.int 2)) (consA (con (.int 3)) (consA (con (.int 4)) (consA (con (.int 5)) (consA (con (.int 6)) (consA (con (.int 7)) (consA (con (.int 8)) (consA (con (.int 10)) (consA (con (.int 12)) (consA (con (.int 35)) (consA (con (.int 56)) (consA (con (.int 84)) (consA (con (.int 105)) (consA (con (.int 420)) (consA (con (.int 840)) nilA))))))))))))))))) (nameG 3))
  (seqS (asgS (lstS nilA) (nameG 4))
  (seqS (forS (range1I (consA (bin subD (var 2) (callV intX (consA (notV (var 1)) nilA))) nilA)) (nameG 5) (exprS (methE chkL appD (var 4) (consA ladE nilA))))
  (seqS (asgS (lstS nilA) (nameG 6))
  (seqS (forS (range1I (consA (var 2) nilA)) (nameG 7) (seqS (asgS nearE (nameG 8)) (seqS (asgS leastE (nameG 9)) (exprS (methE chkL appD (var 6) (consA sizeE nilA))))))
  (retS (tupE (consA (bin ixD (lstE (consA (con (.str (PySem.Str.ofString "row"))) (consA (con (.str (PySem.Str.ofString "ring"))) nilA))) (callV intX (consA (var 1) nilA))) (consA (callV tupleD (consA (var 6) nilA)) (consA (callV tupleD (consA (var 4) nilA)) nilA)))))))))))) := rfl
    rw [hb]
    have hw : D.lst [.int 1, .int 2, .int 3, .int 4, .int 5, .int 6, .int 7, .int 8, .int 10, .int 12, .int 35, .int 56, .int 84, .int 105, .int 420, .int 840] = wheelsD := rfl
    have hc : D.tup [.str (shS ring), .tup (ss.map .int), .tup (ls.map .int)] = cellD ring ss ls := rfl
    have hcnt' : (many : Int) - (if ring = false then 1 else 0) = cnt := by simpa using hcnt
    simp [e1, e2, e3, hring, hmany, hw, hcnt', hr1, hl3, e4, hl4', hr2, e5, g5, g6, hsh, hc]
  rw [e_lcell, body, hlen]
  exact gcO_tup _ _ _ (by simp [D.underAll, D.under, under_ints]) (d5.under hu)
end SH
set_option Elab.async false
set_option linter.all false
set_option maxRecDepth 100000
set_option autoImplicit false
namespace SH
open PySem PySem.Spec L2 DL TL
def fillB (s f : List Int) : Bool := decide (f.length = s.length) && (f.zip s).all fun p => decide (0 ≤ p.1) && decide (p.1 ≤ p.2)
theorem m_is_fillB (ring : Bool) (s l f : List Int) (st : Sto) (hs : s.length ≤ 1000) : c_is_fill [cellD ring s l, .tup (f.map .int)] st = .val (.bl (fillB s f)) st := by
  rw [e_is_fill]
  by_cases hl : f.length = s.length
  · have z : zip2 (.tup (f.map .int)) (.tup (s.map .int)) = some ((f.zip s).map fun p => D.tup [.int p.1, .int p.2]) := by
      show some (zipD (f.map .int) (s.map .int)) = _
      rw [zip_map]
    have hz : (f.zip s).length ≤ 1000000 := by simp; omega
    have lc : ∀ (zs : List (Int × Int)) (acc : List D) (r0 : DL.Env), r0 = [some (cellD ring s l), some (.tup (f.map .int)), none, none] → lcL (slot2 2 3) yesT (callE (arity 3 c_is_from) (consA (var 2) (consA (con (.int 0)) (consA (var 3) nilA)))) r0 (zs.map fun p => D.tup [.int p.1, .int p.2]) acc st = .val (acc ++ zs.map fun p => D.bl (isF 0 p.2 (.int p.1))) st := by
      intro zs
      induction zs with
      | nil => intro acc r0 _; simp [lcL]
      | cons p zs ih =>
        intro acc r0 hr
        subst hr
        have e := m_is_from (.int p.1) 0 p.2 st rfl
        unfold lcL
        simp only [slot2_ap, yesT_ap, noEx_val, bind_val, if_true]
        simp [e, bind_val, ih _ _ rfl]
    have e2 := lc (f.zip s) [] _ rfl
    have hall : ((f.zip s).map fun p => isF 0 p.2 (.int p.1)).all id = fillB s f := by
      unfold fillB
      rw [decide_eq_true hl, Bool.true_and, List.all_map]
      rfl
    have e3 : allD st [.lst ((f.zip s).map fun p => D.bl (isF 0 p.2 (.int p.1)))] = some (.bl (fillB s f)) := by
      show ((seqL st (.lst _)).bind fun ys => (blsOf ys).map fun ns => D.bl (ns.all id)) = _
      simp only [seqL, Option.bind_some, bls_gen, Option.map_some, hall]
    simp only [cellD] at e2 ⊢
    simp only [b_is_fill]
    generalize hZ : ((f.zip s).map fun p => D.tup [.int p.1, .int p.2]) = Z at *
    generalize hB : ((f.zip s).map fun p => D.bl (isF 0 p.2 (.int p.1))) = B at *
    have hZl : Z.length ≤ 1000000 := by rw [← hZ, List.length_map]; exact hz
    simp [z, hl, hZl, e2, e3]
  · have e : fillB s f = false := by unfold fillB; rw [decide_eq_false hl, Bool.false_and]
    have hl' : ¬ (f.length : Int) = s.length := by omega
    rw [e]
    simp only [b_is_fill]
    have hl2 : ((f.length : Int) == (s.length : Int)) = false := by simpa using hl'
    simp [cellD, hl2]
theorem sp_tl : tl sp = [32] := by decide +kernel
theorem sp_kind : sp.cps.all (· < 256) = true := by decide +kernel
theorem sp_len : sp.length = 1 := by decide +kernel
/-- the text of a fill -/
def textOf (f : List Nat) : Str := Txt.join sp (f.map numS)
theorem numS_free (n : Nat) : 32 ∉ tl (numS n) := by
  show 32 ∉ tl (Str.ofString (toString ((n : Nat) : Int)))
  rw [tl_num]
  exact numL_free (by omega)
theorem split_text {f : List Nat} (h : f ≠ []) : Txt.split (textOf f) sp = f.map numS := by
  refine split_join sp_tl sp_kind (by simpa using h) fun p hp => ?_
  obtain ⟨n, _, rfl⟩ := List.mem_map.mp hp
  exact numS_free n
theorem join_len : ∀ (ps : List (List Nat)) (c : Nat), (∀ p ∈ ps, p.length ≤ c) → (joinL [32] ps).length ≤ (c + 1) * ps.length
  | [], c, _ => by simp [joinL]
  | [p], c, h => by
    have := h p List.mem_cons_self
    simp [joinL]; omega
  | p :: q :: r, c, h => by
    have h1 := h p List.mem_cons_self
    have h2 := join_len (q :: r) c fun z hz => h z (List.mem_cons_of_mem _ hz)
    simp only [joinL, List.length_append, List.length_cons, List.length_nil, Nat.mul_succ] at h2 ⊢
    omega
theorem text_tl (f : List Nat) : tl (textOf f) = joinL [32] (f.map numL) := by
  unfold textOf
  rw [join_eq, tl_join, sp_tl, List.map_map]
  congr 1
  apply List.map_congr_left
  intro n _
  exact tl_num n
theorem text_len {f : List Nat} (hf : ∀ n ∈ f, n ≤ 1000000000000) : (textOf f).length ≤ 14 * f.length := by
  rw [len_tl, text_tl]
  have := join_len (f.map numL) 13 fun p hp => by
    obtain ⟨n, hn, rfl⟩ := List.mem_map.mp hp
    exact (num_small (hf n hn)).2
  simpa using this
theorem text_snoc : ∀ (f : List Nat) (n : Nat), f ≠ [] → textOf (f ++ [n]) = textOf f ++ sp ++ numS n := by
  intro f n h
  apply ext_tl
  rw [tl_append, tl_append, text_tl, text_tl, sp_tl, List.map_append, List.map_singleton]
  have e : tl (numS n) = numL n := tl_num n
  rw [e]
  have key : ∀ (ps : List (List Nat)) (q : List Nat), ps ≠ [] → joinL [32] (ps ++ [q]) = joinL [32] ps ++ [32] ++ q := by
    intro ps q
    induction ps with
    | nil => intro h; exact absurd rfl h
    | cons p ps ih =>
      intro _
      cases ps with
      | nil => simp [joinL]
      | cons p2 ps => 
        have := ih (by simp)
        simp only [List.cons_append, joinL] at this ⊢
        rw [this]
        simp
  exact key _ _ (by simpa using h)
theorem text_one (n : Nat) : textOf [n] = numS n := by
  apply ext_tl
  rw [text_tl]
  exact (tl_num n).symm
theorem m_fill_text {f : List Nat} (hf : ∀ n ∈ f, n ≤ 1000000000000) (hl : f.length ≤ 1000) (st : Sto) : c_fill_text [fillD f] st = .val (.str (textOf f)) st := by
  rw [e_fill_text]
  have e := m_numbers_text f hf hl st
  simp [b_fill_text, e, textOf]
theorem fill_map (f : List Nat) : fillD f = .tup ((f.map fun n : Nat => (n : Int)).map .int) := by
  unfold fillD
  rw [List.map_map]
  rfl
theorem m_read_fill (ring : Bool) (s l : List Int) (hs : s.length ≤ 1000) {f : List Nat} (hf : ∀ n ∈ f, n ≤ 1000000000000) (hl : f.length ≤ 1000) (h0 : f ≠ []) (st : Sto) :
    c_read_fill [cellD ring s l, .str (textOf f)] st = if fillB s (f.map fun n : Nat => (n : Int)) = true then .val (fillD f) st else .exc ⟨"NoText", []⟩ st := by
  rw [e_read_fill]
  have tlen := text_len hf
  have e1 : splitM st (.str (textOf f)) [.str sp] = some (.lst ((f.map numS).map .str), st) := by
    rw [split_str', split_text h0, if_pos]
    rw [sp_len]
    simp; omega
  have e2 := m_numbers_told f hf hl st
  have e3 := m_is_fillB ring s l (f.map fun n : Nat => (n : Int)) st hs
  rw [← fill_map] at e3
  have hsp : PySem.Str.ofString " " = sp := rfl
  have hck : chkS st (.str (textOf f)) = true := rfl
  simp only [b_read_fill]
  generalize ((f.map numS).map D.str) = B at *
  generalize textOf f = T at *
  generalize fillD f = FF at *
  cases c : fillB s (f.map fun n : Nat => (n : Int)) with
  | true => rw [c] at e3; simp [hsp, e1, e2, e3, hck]
  | false => rw [c] at e3; simp [hsp, e1, e2, e3, hck]
/-! same -/
mutual
def okT : D → Bool
  | .tup xs => decide (xs.length ≤ 1000) && okTs xs
  | .lst _ => false
  | .ref _ => false
  | .emp => false
  | .scr _ => false
  | _ => true
def okTs : List D → Bool
  | [] => true
  | x :: xs => okT x && okTs xs
end
mutual
def dpt : D → Nat
  | .tup xs => dpts xs + 1
  | _ => 0
def dpts : List D → Nat
  | [] => 0
  | x :: xs => max (dpt x) (dpts xs)
end
theorem memT : ∀ {xs : List D} {d : D}, okTs xs = true → d ∈ xs → okT d = true ∧ dpt d ≤ dpts xs
  | x :: xs, d, h, hd => by
    simp only [okTs, Bool.and_eq_true] at h
    rcases List.mem_cons.mp hd with rfl | hd
    · exact ⟨h.1, by simp only [dpts]; omega⟩
    · obtain ⟨a, b⟩ := memT h.2 hd
      exact ⟨a, by simp only [dpts]; omega⟩
theorem m_sameT : ∀ (m : Nat) (d : D) (st : Sto), okT d = true → dpt d < m → c_same m [d, d] st = .val (.bl true) st := by
  intro m
  induction m with
  | zero => intro d st _ h; omega
  | succ m ih =>
    intro d st h1 h2
    rw [e_same]
    cases d with
    | tup xs =>
      simp only [okT, Bool.and_eq_true, decide_eq_true_eq] at h1
      simp only [dpt] at h2
      have hl : xs.length ≤ 1000000 := by omega
      simp [b_same, rng1_nat' hl, len_range, hl]
      rw [lc_pure1 (fun _ => false) (fun d => d) (rangeD 0 xs.length) [] (fun d hd => ?_)]
      · simp [eqD, eqB, D.see, seqL, D.ht, D.hts, D.eqb, D.eqbs, filter_no]
      · obtain ⟨k, hk, rfl⟩ := mem_range hd
        obtain ⟨x, hx⟩ : ∃ x, xs[k]? = some x := ⟨xs[k], by simp [hk]⟩
        obtain ⟨a, b⟩ := memT h1.2 (List.mem_of_getElem? hx)
        simp [atI_nat hx, ih x st a (by omega)]
    | lst _ => cases h1
    | ref _ => cases h1
    | emp => cases h1
    | scr _ => cases h1
    | non => simp [b_same]; simp [eqD, eqB, D.ht, D.eqb]
    | _ => simp [b_same, nonB]
theorem okT_ints (ns : List Int) : okTs (ns.map .int) = true ∧ dpts (ns.map .int) = 0 := by
  induction ns with
  | nil => exact ⟨rfl, rfl⟩
  | cons n ns ih => simp [okTs, dpts, okT, dpt, ih]
theorem same_fill {f : List Nat} (hl : f.length ≤ 1000) (st : Sto) : c_same 8 [fillD f, fillD f] st = .val (.bl true) st := by
  rw [fill_map]
  have := okT_ints (f.map fun n : Nat => (n : Int))
  exact m_sameT 8 _ st (by simp only [okT, this.1, Bool.and_true]; simpa using hl) (by simp only [dpt, this.2]; decide)
theorem same_str (s : Str) (st : Sto) : c_same 8 [.str s, .str s] st = .val (.bl true) st := m_sameT 8 _ st rfl (by simp [dpt])
end SH
set_option Elab.async false
set_option linter.all false
set_option maxRecDepth 100000
set_option autoImplicit false
namespace SH
open PySem PySem.Spec L2 DL TL
theorem m_stream (ns : List Int) (hl : ns.length ≤ 63) (own : Nat) : ∃ st, c_stream [.scr ns, .int own] [] = .val (.ref 0) st ∧ Strm own [] st := by
  rw [e_stream]
  have hc : (cutL ns none (some 63)).length ≤ 63 := by
    have := cut_to ns 63
    rw [show ((63 : Nat) : Int) = 63 from rfl] at this
    rw [this]
    simp; omega
  have e := lc_gen1 D.int (i := 2) (fe := callV absD (consA (var 2) nilA)) (r0 := [some (.scr ns), some (.int own), none]) (st := []) (fun i => .int (if i < 0 then -i else i)) (cutL ns none (some 63)) [] (fun x _ => by simp)
  have e' : (cutL ns none (some 63)).map (fun i => D.int (if i < 0 then -i else i)) = ((cutL ns none (some 63)).map fun i => if i < 0 then -i else i).map .int := by rw [List.map_map]; rfl
  rw [e'] at e
  refine ⟨[.lst [.lst (((cutL ns none (some 63)).map fun i => if i < 0 then -i else i).map .int), .int 0, .int 0, .int own]], ?_, (cutL ns none (some 63)).map fun i => if i < 0 then -i else i, 0, 0, own, rfl, by simp; omega, Nat.le_refl _⟩
  have hc' : (cutL ns none (some 63)).length ≤ 1000000 := by omega
  generalize (((cutL ns none (some 63)).map fun i => if i < 0 then -i else i).map D.int) = B at *
  simp [b_stream, cut_map, hc', e]
/-- a row of numbers from 0 on as a fill -/
theorem fill_of {s : List Int} (h : ∀ x ∈ s, 0 ≤ x) : fillD (s.map Int.toNat) = .tup (s.map .int) := by
  unfold fillD
  rw [List.map_map]
  congr 1
  apply List.map_congr_left
  intro x hx
  have := h x hx
  show D.int ((x.toNat : Nat) : Int) = _
  rw [Int.toNat_of_nonneg this]
theorem fillB_of {s f : List Int} (hl : f.length = s.length) (h : ∀ (k : Nat) (x l : Int), s[k]? = some x → f[k]? = some l → 0 ≤ l ∧ l ≤ x) : fillB s f = true := by
  unfold fillB
  rw [decide_eq_true hl, Bool.true_and, List.all_eq_true]
  intro p hp
  obtain ⟨k, hk⟩ := List.mem_iff_getElem?.mp hp
  rw [List.getElem?_zip_eq_some] at hk
  have := h k p.2 p.1 hk.2 hk.1
  simp [this.1, this.2]
theorem nat_back {f : List Int} (h : ∀ x ∈ f, 0 ≤ x) : (f.map Int.toNat).map (fun n : Nat => (n : Int)) = f := by
  rw [List.map_map]
  have : ∀ x ∈ f, ((fun n : Nat => (n : Int)) ∘ Int.toNat) x = id x := fun x hx => Int.toNat_of_nonneg (h x hx)
  rw [List.map_congr_left this, List.map_id]
end SH
set_option Elab.async false
set_option linter.all false
set_option maxRecDepth 100000
set_option autoImplicit false
namespace SH
open PySem PySem.Spec L2 DL TL
/-! ### repr: how long at the most -/
mutual
def rwt : D → Nat
  | .non => 4
  | .bl _ => 5
  | .int i => (toString i : Str).length
  | .str s => (reprText s).length
  | .tup xs => rwts xs + 3
  | .lst xs => rwts xs + 3
  | .emp => 2
  | .ref _ => 0
  | .scr _ => 0
def rwts : List D → Nat
  | [] => 0
  | x :: xs => rwt x + 2 + rwts xs
end
mutual
/-- what can be shown -/
def rok : D → Bool
  | .non => true
  | .bl _ => true
  | .int i => decide (i.natAbs.log2 < 1920)
  | .str _ => true
  | .tup xs => roks xs
  | .lst xs => roks xs
  | .emp => true
  | .ref _ => false
  | .scr _ => false
def roks : List D → Bool
  | [] => true
  | x :: xs => rok x && roks xs
end
theorem textFrom_le : ∀ (ts : List Str) (k : Nat) (acc : Str), (textFrom k acc ts).length ≤ acc.length + (ts.map fun t => t.length + 2).sum
  | [], k, acc => by simp [textFrom]
  | t :: ts, k, acc => by
    have := textFrom_le ts (k + 1) (acc ++ (if k > 0 then ", " else "" : String) ++ t)
    have e : ∀ k : Nat, (acc ++ (Str.ofString (if k > 0 then ", " else "" : String)) ++ t).length ≤ acc.length + 2 + t.length := by
      intro k
      rw [Str.length_append, Str.length_append]
      have : (Str.ofString (if k > 0 then ", " else "" : String)).length ≤ 2 := by
        by_cases c : k > 0
        · rw [if_pos c]; decide +kernel
        · rw [if_neg c]; decide +kernel
      omega
    have := e k
    simp only [textFrom, List.map_cons, List.sum_cons] at *
    omega
theorem join_le (y : Str) : ∀ ts : List Str, (Str.join y ts).length ≤ (ts.map fun t => t.length + y.length).sum
  | [] => Nat.zero_le _
  | [t] => by
    show t.length ≤ _
    simp
  | t :: u :: r => by
    have ih := join_le y (u :: r)
    show (t ++ y ++ Str.join y (u :: r)).length ≤ _
    rw [Str.length_append, Str.length_append]
    simp only [List.map_cons, List.sum_cons] at ih ⊢
    omega
mutual
theorem shown_le : ∀ d : D, rok d = true → ((D.pd d).shown.length ≤ rwt d) ∧ (D.pd d).showable = true
  | .non, _ => by
    simp only [D.pd, PyData.shown, PyData.showable, rwt]
    decide +kernel
  | .bl b, _ => by
    simp only [D.pd, PyData.shown, PyData.showable, rwt]
    cases b <;> decide +kernel
  | .int i, h => by
    simp only [rok] at h
    simp only [D.pd, PyData.shown, PyData.showable, rwt]
    exact ⟨Nat.le_refl _, h⟩
  | .str s, _ => by
    simp only [D.pd, PyData.shown, PyData.showable, rwt]
    exact ⟨Nat.le_refl _, trivial⟩
  | .tup xs, h => by
    simp only [rok] at h
    obtain ⟨a, b⟩ := showns_le xs h
    simp only [D.pd, PyData.shown, PyData.showable, rwt]
    refine ⟨?_, b⟩
    unfold tupleText
    rw [Str.length_append, Str.length_append]
    have j := join_le (Str.ofString ", ") (PyData.shownAll (D.pds xs))
    have l2 : (Str.ofString ", ").length = 2 := by decide +kernel
    have l1 : (Str.ofString "(").length = 1 := by decide +kernel
    have l3 : (Str.ofString (if (PyData.shownAll (D.pds xs)).length == 1 then ",)" else ")" : String)).length ≤ 2 := by
      split <;> decide +kernel
    rw [l2] at j
    omega
  | .lst xs, h => by
    simp only [rok] at h
    obtain ⟨a, b⟩ := showns_le xs h
    simp only [D.pd, PyData.shown, PyData.showable, rwt]
    refine ⟨?_, b⟩
    unfold listText
    rw [Str.length_append]
    have j := textFrom_le (PyData.shownAll (D.pds xs)) 0 (Str.ofString "[")
    have l1 : (Str.ofString "[").length = 1 := by decide +kernel
    have l2 : (Str.ofString "]").length = 1 := by decide +kernel
    omega
  | .emp, _ => by
    simp only [D.pd, PyData.shown, PyData.showable, rwt, PyData.shownKv, PyData.showableKv]
    decide +kernel
  | .ref _, h => by cases h
  | .scr _, h => by cases h
theorem showns_le : ∀ xs : List D, roks xs = true → ((PyData.shownAll (D.pds xs)).map fun t => t.length + 2).sum ≤ rwts xs ∧ PyData.showableAll (D.pds xs) = true
  | [], _ => by
    simp only [D.pds, PyData.shownAll, PyData.showableAll, rwts]
    exact ⟨Nat.le_refl _, trivial⟩
  | x :: xs, h => by
    simp only [roks, Bool.and_eq_true] at h
    obtain ⟨a, b⟩ := shown_le x h.1
    obtain ⟨c, d⟩ := showns_le xs h.2
    simp only [D.pds, PyData.shownAll, PyData.showableAll, rwts, List.map_cons, List.sum_cons, b, d]
    exact ⟨by omega, rfl⟩
end
theorem repr_ok {st : Sto} {d : D} {n : Nat} (hs : D.see st d = d) (hh : shD d = some n) (hn : n ≤ 60) (h : rok d = true) (hw : rwt d ≤ 1000000) : reprD st [d] = some (.str (D.pd d).shown) := by
  obtain ⟨a, b⟩ := shown_le d h
  show (match shD (D.see st d) with
  | some n => if (decide (n ≤ 60) && (D.pd (D.see st d)).showable && big (D.pd (D.see st d)).shown.length) = true then some (D.str (D.pd (D.see st d)).shown) else none
  | none => none) = _
  rw [hs, hh]
  dsimp only
  rw [if_pos]
  rw [b, decide_eq_true hn, big_of (by omega)]
  rfl
theorem int_len {i : Int} (h0 : 0 ≤ i) (h : i < 10000000000000000000000000000000000000000) : (toString i : Str).length ≤ 40 ∧ i.natAbs.log2 < 1920 := by
  obtain ⟨n, rfl⟩ := Int.eq_ofNat_of_zero_le h0
  have e : (Str.ofString (toString (n : Int))).length = (numL n).length := numS_len n
  have l := numL_len (n := n) (k := 40) (by decide) (by omega)
  refine ⟨by show (Str.ofString (toString (n : Int))).length ≤ 40; omega, ?_⟩
  simp only [Int.natAbs_natCast]
  by_cases c : n = 0
  · subst c; decide
  · have := (Nat.log2_lt (n := n) c (k := 140)).mpr (by omega)
    omega
theorem ints_rwt : ∀ {ns : List Int}, (∀ x ∈ ns, 0 ≤ x ∧ x < 10000000000000000000000000000000000000000) → roks (ns.map .int) = true ∧ rwts (ns.map .int) ≤ 42 * ns.length
  | [], _ => ⟨rfl, Nat.le_refl _⟩
  | n :: ns, h => by
    obtain ⟨a, b⟩ := ints_rwt (ns := ns) fun x hx => h x (List.mem_cons_of_mem _ hx)
    have h1 := h n List.mem_cons_self
    obtain ⟨c, d⟩ := int_len h1.1 h1.2
    simp only [List.map_cons, roks, rok, rwts, rwt, a, decide_eq_true d, List.length_cons, Bool.and_true, true_and]
    omega
theorem hts_ints' : ∀ ns : List Int, D.hts (ns.map .int) = some 0 := hts_ints
theorem see_of {st : Sto} {d : D} (h : ∀ i, d ≠ .ref i) (h2 : ∀ ns, d ≠ .scr ns) : D.see st d = d := by
  cases d with
  | ref i => exact absurd rfl (h i)
  | scr ns => exact absurd rfl (h2 ns)
  | _ => rfl
end SH
set_option Elab.async false
set_option linter.all false
set_option maxRecDepth 100000
set_option autoImplicit false
namespace SH
open PySem PySem.Spec L2 DL TL
def cm : Str := PySem.Str.ofString ", "
theorem cm_tl : tl cm = [44, 32] := by decide +kernel
theorem cm_kind : cm.cps.all (· < 256) = true := by decide +kernel
theorem cm_len : cm.length = 2 := by decide +kernel
/-- the text of numbers -/
def txtI (s : List Int) : Str := textOf (s.map Int.toNat)
/-- the text of a shape and numbers -/
def headT (ring : Bool) (s : List Int) : Str := Txt.join sp (shS ring :: (s.map Int.toNat).map numS)
/-- the text of a cellar -/
def cellT (ring : Bool) (s l : List Int) : Str := Txt.join cm (headT ring s :: if l = [] then [] else [txtI l])
theorem sh_tl (ring : Bool) : tl (shS ring) = if ring then [114, 105, 110, 103] else [114, 111, 119] := by cases ring <;> decide +kernel
theorem sh_free (ring : Bool) : 32 ∉ tl (shS ring) ∧ 44 ∉ tl (shS ring) := by cases ring <;> decide +kernel
theorem joinL_mem : ∀ (ps : List (List Nat)) (S : List Nat) (c : Nat), c ∉ S → (∀ p ∈ ps, c ∉ p) → c ∉ joinL S ps
  | [], _, _, _, _ => by simp [joinL]
  | [p], _, _, _, h => h p List.mem_cons_self
  | p :: q :: r, S, c, hS, h => by
    have ih := joinL_mem (q :: r) S c hS fun z hz => h z (List.mem_cons_of_mem _ hz)
    simp only [joinL, List.mem_append, not_or]
    exact ⟨h p List.mem_cons_self, hS, ih⟩
theorem head_tl (ring : Bool) (s : List Int) : tl (headT ring s) = joinL [32] (tl (shS ring) :: (s.map Int.toNat).map numL) := by
  unfold headT
  rw [join_eq, tl_join, sp_tl, List.map_cons, List.map_map]
  congr 2
  apply List.map_congr_left
  intro n _
  exact tl_num n
theorem head_free (ring : Bool) (s : List Int) : 44 ∉ tl (headT ring s) := by
  rw [head_tl]
  refine joinL_mem _ _ _ (by decide) fun p hp => ?_
  rcases List.mem_cons.mp hp with rfl | hp
  · exact (sh_free ring).2
  · obtain ⟨n, _, rfl⟩ := List.mem_map.mp hp
    exact numL_free (by omega)
theorem txt_free (s : List Int) : 44 ∉ tl (txtI s) := by
  unfold txtI
  rw [text_tl]
  refine joinL_mem _ _ _ (by decide) fun p hp => ?_
  obtain ⟨n, _, rfl⟩ := List.mem_map.mp hp
  exact numL_free (by omega)
theorem split_cell (ring : Bool) (s l : List Int) : Txt.split (cellT ring s l) cm = headT ring s :: if l = [] then [] else [txtI l] := by
  refine split_join cm_tl cm_kind (by simp) fun p hp => ?_
  rcases List.mem_cons.mp hp with rfl | hp
  · exact head_free ring s
  · by_cases c : l = []
    · rw [if_pos c] at hp; simp at hp
    · rw [if_neg c] at hp
      simp at hp; subst hp
      exact txt_free l
theorem split_head (ring : Bool) (s : List Int) : Txt.split (headT ring s) sp = shS ring :: (s.map Int.toNat).map numS := by
  refine split_join sp_tl sp_kind (by simp) fun p hp => ?_
  rcases List.mem_cons.mp hp with rfl | hp
  · exact (sh_free ring).1
  · obtain ⟨n, _, rfl⟩ := List.mem_map.mp hp
    exact numS_free n
theorem head_len (ring : Bool) {s : List Int} (h : ∀ x ∈ s, 0 ≤ x ∧ x ≤ 1000000000000) : (headT ring s).length ≤ 14 * (s.length + 1) := by
  rw [len_tl, head_tl]
  have := join_len (tl (shS ring) :: (s.map Int.toNat).map numL) 13 fun p hp => by
    rcases List.mem_cons.mp hp with rfl | hp
    · rw [sh_tl]; cases ring <;> simp
    · obtain ⟨n, hn, rfl⟩ := List.mem_map.mp hp
      obtain ⟨x, hx, rfl⟩ := List.mem_map.mp hn
      have := h x hx
      exact (num_small (by omega)).2
  simpa using this
theorem nat_le {s : List Int} {m : Nat} (h : ∀ x ∈ s, 0 ≤ x ∧ x ≤ (m : Int)) : ∀ n ∈ s.map Int.toNat, n ≤ m := by
  intro n hn
  obtain ⟨x, hx, rfl⟩ := List.mem_map.mp hn
  have := h x hx
  omega
theorem txtI_len {s : List Int} (h : ∀ x ∈ s, 0 ≤ x ∧ x ≤ 1000000000000) : (txtI s).length ≤ 14 * s.length := by
  have := text_len (f := s.map Int.toNat) (nat_le (m := 1000000000000) h)
  rw [List.length_map] at this
  exact this
theorem head_eq (ring : Bool) {s : List Int} (h : s ≠ []) : ((Str.empty ++ shS ring) ++ PySem.Str.ofString " ") ++ txtI s = headT ring s := by
  apply ext_tl
  have e : tl (PySem.Str.ofString " ") = [32] := sp_tl
  have e0 : tl Str.empty = [] := rfl
  rw [tl_append, tl_append, tl_append, e, e0, head_tl]
  unfold txtI
  rw [text_tl]
  cases s with
  | nil => exact absurd rfl h
  | cons x s => simp [joinL]
theorem join_two (a b c : Str) : Txt.join a [b, c] = b ++ a ++ c := by
  rw [join_eq]
  rfl
theorem join_one (a b : Str) : Txt.join a [b] = b := by
  rw [join_eq]
  rfl
theorem m_ntext {s : List Int} (h : ∀ x ∈ s, 0 ≤ x ∧ x ≤ 1000000000000) (hl : s.length ≤ 1000) (st : Sto) : c_numbers_text [.tup (s.map .int)] st = .val (.str (txtI s)) st := by
  have := m_numbers_text (s.map Int.toNat) (nat_le (m := 1000000000000) h) (by simpa using hl) st
  rw [fill_of fun x hx => (h x hx).1] at this
  exact this
theorem m_ntold {s : List Int} (h : ∀ x ∈ s, 0 ≤ x ∧ x ≤ 1000000000000) (hl : s.length ≤ 1000) (st : Sto) : c_numbers_told [.lst (((s.map Int.toNat).map numS).map .str)] st = .val (.tup (s.map .int)) st := by
  have := m_numbers_told (s.map Int.toNat) (nat_le (m := 1000000000000) h) (by simpa using hl) st
  rw [fill_of fun x hx => (h x hx).1] at this
  exact this
theorem Good.s0 {ring : Bool} {s l : List Int} (G : Good ring s l) : ∀ x ∈ s, 0 ≤ x ∧ x ≤ 1000000000000 := fun x hx => by have := G.s1 x hx; omega
theorem Good.l0 {ring : Bool} {s l : List Int} (G : Good ring s l) : ∀ x ∈ l, 0 ≤ x ∧ x ≤ 1000000000000 := fun x hx => by have := G.l1 x hx; omega
theorem Good.sne {ring : Bool} {s l : List Int} (G : Good ring s l) : s ≠ [] := fun z => by
  have := G.n2
  rw [z] at this
  simp at this
theorem ne_empty (st : Sto) (l : List Int) : neD st (.tup (l.map .int)) (.tup []) = some (.bl (!decide (l = []))) := by
  cases l with
  | nil => simp [neD, eqB, D.ht, D.hts, D.eqb, D.eqbs]
  | cons n ns => simp [neD, eqB, D.ht, D.hts, D.eqb, D.eqbs, hts_ints ns]
theorem cell_len {ring : Bool} {s l : List Int} (G : Good ring s l) : (cellT ring s l).length ≤ 1000 := by
  have h1 := head_len ring G.s0
  have h2 := txtI_len G.l0
  have n2 := G.n2
  unfold cellT
  by_cases c : l = []
  · rw [if_pos c, join_one]; omega
  · rw [if_neg c, join_two, Str.length_append, Str.length_append, cm_len]; omega
theorem m_cellar_text {ring : Bool} {s l : List Int} (G : Good ring s l) (st : Sto) (hu : WF st) : c_cellar_text [cellD ring s l] st = .val (.str (cellT ring s l)) st := by
  rw [e_cellar_text]
  have n2 := G.n2
  have h1 := head_len ring G.s0
  have h2 := txtI_len G.l0
  have h3 := txtI_len G.s0
  have e1 := fun st => m_ntext G.s0 (by omega) st
  have e2 := fun st => m_ntext G.l0 (by omega) st
  have hh := head_eq ring G.sne
  have l0 : Str.empty.length = 0 := rfl
  have l1 : (shS ring).length ≤ 4 := by cases ring <;> decide +kernel
  have l2 : (PySem.Str.ofString " ").length = 1 := by decide +kernel
  have b1 : (Str.empty ++ shS ring).length ≤ 1000000 := by rw [Str.length_append, l0]; omega
  have b2 : (Str.empty ++ shS ring ++ PySem.Str.ofString " ").length ≤ 1000000 := by rw [Str.length_append, Str.length_append, l0, l2]; omega
  have b3 : (headT ring s).length ≤ 1000000 := by omega
  have b4 : (txtI s).length ≤ 1000000 := by omega
  have b5 : (shS ring).length ≤ 1000000 := by omega
  have ne := fun st => ne_empty st l
  have hj : ∀ (st : Sto) (xs : List Str), xs.length ≤ 2 → (∀ x ∈ xs, x.length ≤ 1000) → st[st.length - 1]? = some (.lst (xs.map .str)) → joinM st (.str cm) [.ref (st.length - 1)] = some (.str (Txt.join cm xs), st) := by
    intro st xs hx hb hst
    have hs : seqA st (.ref (st.length - 1)) = some (xs.map .str) := by
      show (seqT (.ref (st.length - 1))).or (seqL st (.ref (st.length - 1))) = _
      show seqL st (.ref (st.length - 1)) = _
      rw [seqL_ref', hst]
      rfl
    have hss : strsOf (xs.map D.str) = some xs := by
      clear hs hst hx hb
      induction xs with
      | nil => rfl
      | cons x xs ih => simp [strsOf, ih]
    show (seqA st (.ref (st.length - 1))).bind _ = _
    rw [hs]
    show (strsOf (xs.map D.str)).bind _ = _
    rw [hss]
    show (if _ then _ else _) = _
    rw [if_pos]
    refine big_of ?_
    rw [cm_len]
    have : (xs.map (·.length)).sum ≤ 1000 * xs.length := by
      clear hs hss hst hx
      induction xs with
      | nil => simp
      | cons x xs ih =>
        have := ih fun y hy => hb y (List.mem_cons_of_mem _ hy)
        have := hb x List.mem_cons_self
        simp only [List.map_cons, List.sum_cons, List.length_cons]
        omega
    omega
  have hcm : PySem.Str.ofString ", " = cm := rfl
  have body : ∃ st2, finB (b_cellar_text [some (cellD ring s l), none, none, none, none] st) = .val (.str (cellT ring s l)) (st ++ [st2]) := by
    by_cases c : l = []
    · refine ⟨.lst [.str (headT ring s)], ?_⟩
      have j := hj (st ++ [.lst [.str (headT ring s)]]) [headT ring s] (by simp) (fun x hx => by simp at hx; subst hx; omega) (by simp)
      simp only [List.length_append, List.length_singleton, Nat.add_sub_cancel] at j
      have ne' : ∀ st, neD st (.tup (l.map .int)) (.tup []) = some (.bl false) := fun st => by rw [ne st, decide_eq_true c]; rfl
      unfold cellT
      rw [if_pos c]
      simp only [cellD] at e1 e2 ⊢
      generalize (s.map D.int) = S at *
      generalize (l.map D.int) = M at *
      have hc : chkS (st ++ [.lst [.str (headT ring s)]]) (.str cm) = true := rfl
      simp [b_cellar_text, e1, b5, b1, b2, b4, hh, b3, ne', hcm, hc, j]
    · refine ⟨.lst [.str (headT ring s), .str (txtI l)], ?_⟩
      have j := hj (st ++ [.lst [.str (headT ring s), .str (txtI l)]]) [headT ring s, txtI l] (by simp) (fun x hx => by
        simp only [List.mem_cons, List.not_mem_nil, or_false] at hx
        rcases hx with rfl | rfl <;> omega) (by simp)
      simp only [List.length_append, List.length_singleton, Nat.add_sub_cancel] at j
      have ne' : ∀ st, neD st (.tup (l.map .int)) (.tup []) = some (.bl true) := fun st => by rw [ne st, decide_eq_false c]; rfl
      unfold cellT
      rw [if_neg c]
      simp only [cellD] at e1 e2 ⊢
      generalize (s.map D.int) = S at *
      generalize (l.map D.int) = M at *
      have hc : chkS (st ++ [.lst [.str (headT ring s), .str (txtI l)]]) (.str cm) = true := rfl
      have sl := set_last st (.lst [.str (headT ring s)]) (.lst [.str (headT ring s), .str (txtI l)])
      simp [b_cellar_text, e1, e2, b5, b1, b2, b4, hh, b3, ne', hcm, hc, sl, j]
  obtain ⟨st2, body⟩ := body
  rw [body, gcO_str _ _ _ (by rw [List.take_left]; exact hu), List.take_left]
theorem cellD_eq (ring : Bool) (s l : List Int) : D.tup [.str (shS ring), .tup (s.map .int), .tup (l.map .int)] = cellD ring s l := rfl
theorem m_read_cellar {ring : Bool} {s l : List Int} (G : Good ring s l) (st : Sto) : c_read_cellar [.str (cellT ring s l)] st = .val (cellD ring s l) st := by
  rw [e_read_cellar]
  have n2 := G.n2
  have h1 := head_len ring G.s0
  have h2 := txtI_len G.l0
  have hc := cell_len G
  have e1 := m_ntold G.s0 (by omega) st
  have e2 := m_ntold G.l0 (by omega) st
  have e3 := good_cellar G st
  have hcm : PySem.Str.ofString ", " = cm := rfl
  have hsp : PySem.Str.ofString " " = sp := rfl
  have ck : ∀ x : Str, chkS st (.str x) = true := fun _ => rfl
  have s1 : splitM st (.str (cellT ring s l)) [.str cm] = some (.lst ((headT ring s :: if l = [] then [] else [txtI l]).map .str), st) := by
    rw [split_str', split_cell, if_pos]
    rw [cm_len, Bool.and_eq_true]
    exact ⟨rfl, big_of (by omega)⟩
  have s2 : splitM st (.str (headT ring s)) [.str sp] = some (.lst (.str (shS ring) :: ((s.map Int.toNat).map numS).map .str), st) := by
    rw [split_str', split_head, if_pos]
    · rfl
    · rw [sp_len, Bool.and_eq_true]
      exact ⟨rfl, big_of (by omega)⟩
  have hw : (((s.map Int.toNat).map numS).map D.str).length ≤ 16000 := by simp; omega
  by_cases c : l = []
  · rw [if_pos c] at s1
    simp only [List.map_cons, List.map_nil] at s1
    rw [c] at e3 ⊢
    rw [c] at s1
    have k := cellD_eq ring s []
    simp only [List.map_nil] at k
    generalize (((s.map Int.toNat).map numS).map D.str) = W at *
    generalize cellT ring s [] = T at *
    generalize (s.map D.int) = S at *
    generalize cellD ring s [] = C at *
    simp only [b_read_cellar]
    simp [hcm, hsp, ck, s1, s2, hw, e1, k, e3]
  · rw [if_neg c] at s1
    have s3 : splitM st (.str (txtI l)) [.str sp] = some (.lst (((l.map Int.toNat).map numS).map .str), st) := by
      unfold txtI
      have : l.map Int.toNat ≠ [] := fun z => c (List.map_eq_nil_iff.mp z)
      rw [split_str', split_text this, if_pos]
      rw [sp_len, Bool.and_eq_true]
      refine ⟨rfl, big_of ?_⟩
      have : (textOf (l.map Int.toNat)).length ≤ 14 * l.length := h2
      omega
    simp only [List.map_cons, List.map_nil] at s1
    have k := cellD_eq ring s l
    generalize (((s.map Int.toNat).map numS).map D.str) = W at *
    generalize (((l.map Int.toNat).map numS).map D.str) = V at *
    generalize cellT ring s l = T at *
    generalize (s.map D.int) = S at *
    generalize (l.map D.int) = M at *
    generalize cellD ring s l = C at *
    simp only [b_read_cellar]
    simp [hcm, hsp, ck, s1, s2, s3, hw, e1, e2, k, e3]
end SH
set_option Elab.async false
set_option linter.all false
set_option maxRecDepth 100000
set_option autoImplicit false
set_option maxHeartbeats 4000000
namespace K88
open PySem PySem.Spec L2 DL SH
def top (i : Nat) : Stmt := PySem.Challenge.pw_ladlerow_k88_cellar_texts.main.body.getD i (.Pass ⟨0, 0, 0, 0⟩)
def tab : ExTab := [("LadleError", [.own "LadleError", .ty "ValueError", .ty "Exception"]), ("NoText", [.own "NoText", .own "LadleError", .ty "ValueError", .ty "Exception"])]
def asks : List CD := []
instance tabsI : Tabs := ⟨tab, asks⟩
structure Txt (K : PySem.W.Frag) (mg : Str → Option Value) (L : Str → Addr) : Prop where
  z_abs : mg "abs" = none
  z_all : mg "all" = none
  z_bool : mg "bool" = none
  z_enumerate : mg "enumerate" = none
  z_int : mg "int" = none
  z_isinstance : mg "isinstance" = none
  z_len : mg "len" = none
  z_max : mg "max" = none
  z_min : mg "min" = none
  z_range : mg "range" = none
  z_repr : mg "repr" = none
  z_str : mg "str" = none
  z_tuple : mg "tuple" = none
  c_ROUND : ∃ u, mg "ROUND" = some u ∧ RelV (.int 6) u
  c_VESSELS : ∃ u, mg "VESSELS" = some u ∧ RelV (.int 12) u
  c_COMMON : ∃ u, mg "COMMON" = some u ∧ RelV (.int 840) u
  c_MOST : ∃ u, mg "MOST" = some u ∧ RelV (.int 1000000000000) u
  c_GREAT : ∃ u, mg "GREAT" = some u ∧ RelV (.int 500000000000) u
  c_LONGEST : ∃ u, mg "LONGEST" = some u ∧ RelV (.int 13) u
  c_FIGURES : ∃ u, mg "FIGURES" = some u ∧ RelV (.str (PySem.Str.ofString "0123456789")) u
  d_is_whole : DefAt K mg "is_whole" (top 6)
  d_is_from : DefAt K mg "is_from" (top 7)
  d_is_row_of : DefAt K mg "is_row_of" (top 8)
  d_measure : DefAt K mg "measure" (top 9)
  d_multiple : DefAt K mg "multiple" (top 10)
  d_is_ring : DefAt K mg "is_ring" (top 12)
  d_ends : DefAt K mg "ends" (top 13)
  d_counts_fit : DefAt K mg "counts_fit" (top 14)
  d_ladles_fit : DefAt K mg "ladles_fit" (top 15)
  d_is_cellar : DefAt K mg "is_cellar" (top 16)
  d_numbers_text : DefAt K mg "numbers_text" (top 23)
  d_cellar_text : DefAt K mg "cellar_text" (top 24)
  d_number_told : DefAt K mg "number_told" (top 25)
  d_numbers_told : DefAt K mg "numbers_told" (top 26)
  d_read_cellar : DefAt K mg "read_cellar" (top 27)
  d_stream : DefAt K mg "_law_stream" (top 29)
  d_take : DefAt K mg "_law_take" (top 30)
  d_far : DefAt K mg "_law_far" (top 31)
  d_lcell : DefAt K mg "_law_cellar" (top 32)
  d_same : DefAt K mg "_law_same" (top 33)
  d_law_text : DefAt K mg "_law_text" (top 34)
  d_law : DefAt K mg "law" (top 35)
  x : ExOk K L tab asks
  g_NoText : mg "NoText" = some (.ref (L "NoText"))
  e_NoText : ErrAt K mg L "NoText"
section
variable {P : Program} {w : PySem.World} {K : PySem.W.Frag} {mg : Str → Option Value} {base : Heap} {L : Str → Addr}
abbrev st_is_whole : Stmt := top 6
theorem S_is_whole : FnScope N_is_whole ["thing"] (defScope st_is_whole) := ⟨rfl, rfl, rfl, by decide +kernel, rfl, by decide +kernel, by decide +kernel⟩
theorem ok_is_whole (T : Txt K mg L) : Cal P w K L mg base 1 "is_whole" 1 c_is_whole :=
  ((cal_of (k := 0) (N := N_is_whole) (ps := ["thing"]) (b := b_is_whole) T.d_is_whole S_is_whole (fun _ _ F => F.binds fun _ _ _ _ _ _ us hl => match us, hl with | [_], _ => rfl) (fun f cdv A outer s H E hr hgd => by
    have tk := takes_of (X := cxOf (L2.CX P w) P w K mg base N_is_whole "is_whole" (defScope st_is_whole) f cdv A outer s H E) rfl rfl rfl rfl
    have pas : PassesOwn (model P w) _ _ (cxOf (L2.CX P w) P w K mg base N_is_whole "is_whole" (defScope st_is_whole) f cdv A outer s H E).xe := passes_of (X := cxOf (L2.CX P w) P w K mg base N_is_whole "is_whole" (defScope st_is_whole) f cdv A outer s H E) rfl
    exact (d_one (d_ret (d_andV (d_isi rfl T.z_isinstance rfl (d_var (pv 0)) (pe_bltn rfl T.z_int bt_int rfl)) (pe_one (d_notV (d_isi rfl T.z_isinstance rfl (d_var (pv 0)) (pe_bltn rfl T.z_bool bt_bool rfl))))))))) : Cal P w K L mg base 1 "is_whole" 1 c_is_whole)

abbrev st_is_from : Stmt := top 7
theorem S_is_from : FnScope N_is_from ["thing", "low", "high"] (defScope st_is_from) := ⟨rfl, rfl, rfl, by decide +kernel, rfl, by decide +kernel, by decide +kernel⟩
theorem ok_is_from (T : Txt K mg L) : Cal P w K L mg base 2 "is_from" 3 c_is_from :=
  ((cal_of (k := 1) (N := N_is_from) (ps := ["thing", "low", "high"]) (b := b_is_from) T.d_is_from S_is_from (fun _ _ F => F.binds fun _ _ _ _ _ _ us hl => match us, hl with | [_, _, _], _ => rfl) (fun f cdv A outer s H E hr hgd => by
    have tk := takes_of (X := cxOf (L2.CX P w) P w K mg base N_is_from "is_from" (defScope st_is_from) f cdv A outer s H E) rfl rfl rfl rfl
    have pas : PassesOwn (model P w) _ _ (cxOf (L2.CX P w) P w K mg base N_is_from "is_from" (defScope st_is_from) f cdv A outer s H E).xe := passes_of (X := cxOf (L2.CX P w) P w K mg base N_is_from "is_from" (defScope st_is_from) f cdv A outer s H E) rfl
    exact (d_one (d_ret (d_andV (d_callC (ok_is_whole T) (hr.mono (by decide)) hgd rfl tk (d_cons (d_var (pv 0)) d_nil)) (pe_one (d_chain op_le op_le r_le r_le (d_var (pv 1)) (d_var (pv 0)) (d_var (pv 2))))))))) : Cal P w K L mg base 2 "is_from" 3 c_is_from)

abbrev st_is_row_of : Stmt := top 8
theorem S_is_row_of : FnScope N_is_row_of ["thing", "low", "high"] (defScope st_is_row_of) := ⟨rfl, rfl, rfl, by decide +kernel, rfl, by decide +kernel, by decide +kernel⟩
theorem ok_is_row_of (T : Txt K mg L) : Cal P w K L mg base 3 "is_row_of" 3 c_is_row_of :=
  ((cal_of (k := 2) (N := N_is_row_of) (ps := ["thing", "low", "high"]) (b := b_is_row_of) T.d_is_row_of S_is_row_of (fun _ _ F => F.binds fun _ _ _ _ _ _ us hl => match us, hl with | [_, _, _], _ => rfl) (fun f cdv A outer s H E hr hgd => by
    have tk := takes_of (X := cxOf (L2.CX P w) P w K mg base N_is_row_of "is_row_of" (defScope st_is_row_of) f cdv A outer s H E) rfl rfl rfl rfl
    have pas : PassesOwn (model P w) _ _ (cxOf (L2.CX P w) P w K mg base N_is_row_of "is_row_of" (defScope st_is_row_of) f cdv A outer s H E).xe := passes_of (X := cxOf (L2.CX P w) P w K mg base N_is_row_of "is_row_of" (defScope st_is_row_of) f cdv A outer s H E) rfl
    exact (d_one (d_ret (d_andV (d_isi rfl T.z_isinstance rfl (d_var (pv 0)) (pe_bltn rfl T.z_tuple bt_tuple rfl)) (pe_one (d_call (pe_callB (cr_all rfl) rfl T.z_all bt_all (d_cons (d_lc (own := [("part", 3)]) rfl S_is_row_of.nd (d_items (d_var (pv 0))) (blkOk_by (N := N_is_row_of) (sc := defScope st_is_row_of) (by decide +kernel)) (tg_name _ fr0) (fun _ _ => fr0) (fun _ _ _ _ _ => (pg_name (i := 3) S_is_row_of.nd rfl (by first | exact Or.inl rfl | exact Or.inr rfl))) (fun _ _ _ _ _ => d_yes) (fun _ _ _ _ _ => (d_callC (ok_is_from T) (hr.mono (by decide)) hgd rfl tk0 (d_cons (d_var (pv 3)) (d_cons (d_var (pv 1)) (d_cons (d_var (pv 2)) d_nil)))))) d_nil)) r_all))))))) : Cal P w K L mg base 3 "is_row_of" 3 c_is_row_of)

abbrev st_measure : Stmt := top 9
theorem S_measure : FnScope N_measure ["one", "other"] (defScope st_measure) := ⟨rfl, rfl, rfl, by decide +kernel, rfl, by decide +kernel, by decide +kernel⟩
theorem ok_measure (T : Txt K mg L) : Cal P w K L mg base 1 "measure" 2 c_measure :=
  ((cal_of (k := 0) (N := N_measure) (ps := ["one", "other"]) (b := b_measure) T.d_measure S_measure (fun _ _ F => F.binds fun _ _ _ _ _ _ us hl => match us, hl with | [_, _], _ => rfl) (fun f cdv A outer s H E hr hgd => by
    have tk := takes_of (X := cxOf (L2.CX P w) P w K mg base N_measure "measure" (defScope st_measure) f cdv A outer s H E) rfl rfl rfl rfl
    have pas : PassesOwn (model P w) _ _ (cxOf (L2.CX P w) P w K mg base N_measure "measure" (defScope st_measure) f cdv A outer s H E).xe := passes_of (X := cxOf (L2.CX P w) P w K mg base N_measure "measure" (defScope st_measure) f cdv A outer s H E) rfl
    exact (d_seq (d_while (fuel := fun (r : DL.Env) (_ : Sto) => match r[1]?.join with | some (D.int i) => i.natAbs + 1 | _ => 0) pas (d_tcmp op_gt r_gt (d_var (pv 1)) (d_con pe_int (fun _ _ => rfl)) (nomark _)) (d_one (d_par (ps_par (i := 0) (j := 1) rfl S_measure.nd rfl rfl (by decide) rfl rfl (d_cons (d_var (pv 1)) (d_cons (d_op op_mod r_mod (d_var (pv 0)) (d_var (pv 1))) d_nil)) rfl) fr0 fr0)))
  (d_one (d_ret (d_var (pv 0))))))) : Cal P w K L mg base 1 "measure" 2 c_measure)

abbrev st_multiple : Stmt := top 10
theorem S_multiple : FnScope N_multiple ["some"] (defScope st_multiple) := ⟨rfl, rfl, rfl, by decide +kernel, rfl, by decide +kernel, by decide +kernel⟩
theorem ok_multiple (T : Txt K mg L) : Cal P w K L mg base 2 "multiple" 1 c_multiple :=
  ((cal_of (k := 1) (N := N_multiple) (ps := ["some"]) (b := b_multiple) T.d_multiple S_multiple (fun _ _ F => F.binds fun _ _ _ _ _ _ us hl => match us, hl with | [_], _ => rfl) (fun f cdv A outer s H E hr hgd => by
    have tk := takes_of (X := cxOf (L2.CX P w) P w K mg base N_multiple "multiple" (defScope st_multiple) f cdv A outer s H E) rfl rfl rfl rfl
    have pas : PassesOwn (model P w) _ _ (cxOf (L2.CX P w) P w K mg base N_multiple "multiple" (defScope st_multiple) f cdv A outer s H E).xe := passes_of (X := cxOf (L2.CX P w) P w K mg base N_multiple "multiple" (defScope st_multiple) f cdv A outer s H E) rfl
    exact (d_seq (d_set (ps_set (i := 1) S_multiple.nd rfl (by first | exact Or.inl rfl | exact Or.inr rfl) (d_con pe_int (fun _ _ => rfl))) fr0)
  (d_seq (d_for pas rfl (d_items (d_var (pv 0))) (d_nameG (pg_name (i := 2) S_multiple.nd rfl (by first | exact Or.inl rfl | exact Or.inr rfl)) fr0) (d_one (d_set (ps_set (i := 1) S_multiple.nd rfl (by first | exact Or.inl rfl | exact Or.inr rfl) (d_op o_mul r_mul (d_op op_fdivW r_fdiv (d_var (pv 1)) (d_callC (ok_measure T) (hr.mono (by decide)) hgd rfl tk (d_cons (d_var (pv 1)) (d_cons (d_var (pv 2)) d_nil)))) (d_var (pv 2)))) fr0)))
  (d_one (d_ret (d_var (pv 1)))))))) : Cal P w K L mg base 2 "multiple" 1 c_multiple)

abbrev st_is_ring : Stmt := top 12
theorem S_is_ring : FnScope N_is_ring ["cellar"] (defScope st_is_ring) := ⟨rfl, rfl, rfl, by decide +kernel, rfl, by decide +kernel, by decide +kernel⟩
theorem ok_is_ring (T : Txt K mg L) : Cal P w K L mg base 1 "is_ring" 1 c_is_ring :=
  ((cal_of (k := 0) (N := N_is_ring) (ps := ["cellar"]) (b := b_is_ring) T.d_is_ring S_is_ring (fun _ _ F => F.binds fun _ _ _ _ _ _ us hl => match us, hl with | [_], _ => rfl) (fun f cdv A outer s H E hr hgd => by
    have tk := takes_of (X := cxOf (L2.CX P w) P w K mg base N_is_ring "is_ring" (defScope st_is_ring) f cdv A outer s H E) rfl rfl rfl rfl
    have pas : PassesOwn (model P w) _ _ (cxOf (L2.CX P w) P w K mg base N_is_ring "is_ring" (defScope st_is_ring) f cdv A outer s H E).xe := passes_of (X := cxOf (L2.CX P w) P w K mg base N_is_ring "is_ring" (defScope st_is_ring) f cdv A outer s H E) rfl
    exact (d_one (d_ret (d_cmp (o_eq (by have z := hu64 hr; exact z)) r_eq (d_ix ix_seq r_ix (d_var (pv 0)) (d_con pe_int (fun _ _ => rfl)) (fun _ _ => rfl)) (d_con pe_str (fun _ _ => rfl)) (nomark _)))))) : Cal P w K L mg base 1 "is_ring" 1 c_is_ring)

abbrev st_ends : Stmt := top 13
theorem S_ends : FnScope N_ends ["cellar", "ladle"] (defScope st_ends) := ⟨rfl, rfl, rfl, by decide +kernel, rfl, by decide +kernel, by decide +kernel⟩
theorem ok_ends (T : Txt K mg L) : Cal P w K L mg base 1 "ends" 2 c_ends :=
  ((cal_of (k := 0) (N := N_ends) (ps := ["cellar", "ladle"]) (b := b_ends) T.d_ends S_ends (fun _ _ F => F.binds fun _ _ _ _ _ _ us hl => match us, hl with | [_, _], _ => rfl) (fun f cdv A outer s H E hr hgd => by
    have tk := takes_of (X := cxOf (L2.CX P w) P w K mg base N_ends "ends" (defScope st_ends) f cdv A outer s H E) rfl rfl rfl rfl
    have pas : PassesOwn (model P w) _ _ (cxOf (L2.CX P w) P w K mg base N_ends "ends" (defScope st_ends) f cdv A outer s H E).xe := passes_of (X := cxOf (L2.CX P w) P w K mg base N_ends "ends" (defScope st_ends) f cdv A outer s H E) rfl
    exact (d_one (d_ret (d_tup (d_cons (d_var (pv 1)) (d_cons (d_op op_mod r_mod (d_op o_add r_add (d_var (pv 1)) (d_con pe_int (fun _ _ => rfl))) (d_call (pe_callB call_len rfl T.z_len bt_len (d_cons (d_ix ix_seq r_ix (d_var (pv 0)) (d_con pe_int (fun _ _ => rfl)) (fun _ _ => rfl)) d_nil)) r_len)) d_nil))))))) : Cal P w K L mg base 1 "ends" 2 c_ends)

abbrev st_counts_fit : Stmt := top 14
theorem S_counts_fit : FnScope N_counts_fit ["shape", "sizes", "ladles"] (defScope st_counts_fit) := ⟨rfl, rfl, rfl, by decide +kernel, rfl, by decide +kernel, by decide +kernel⟩
theorem ok_counts_fit (T : Txt K mg L) : Cal P w K L mg base 1 "counts_fit" 3 c_counts_fit :=
  ((cal_of (k := 0) (N := N_counts_fit) (ps := ["shape", "sizes", "ladles"]) (b := b_counts_fit) T.d_counts_fit S_counts_fit (fun _ _ F => F.binds fun _ _ _ _ _ _ us hl => match us, hl with | [_, _, _], _ => rfl) (fun f cdv A outer s H E hr hgd => by
    have tk := takes_of (X := cxOf (L2.CX P w) P w K mg base N_counts_fit "counts_fit" (defScope st_counts_fit) f cdv A outer s H E) rfl rfl rfl rfl
    have pas : PassesOwn (model P w) _ _ (cxOf (L2.CX P w) P w K mg base N_counts_fit "counts_fit" (defScope st_counts_fit) f cdv A outer s H E).xe := passes_of (X := cxOf (L2.CX P w) P w K mg base N_counts_fit "counts_fit" (defScope st_counts_fit) f cdv A outer s H E) rfl
    exact (d_seq (d_ifS (d_tcmp (o_eq (by have z := hu64 hr; exact z)) r_eq (d_var (pv 0)) (d_con pe_str (fun _ _ => rfl)) (nomark _)) (d_one (d_ret (d_andV (d_chain op_le op_le r_le r_le (d_con pe_int (fun _ _ => rfl)) (d_call (pe_callB call_len rfl T.z_len bt_len (d_cons (d_var (pv 1)) d_nil)) r_len) (d_gc rfl T.c_ROUND (fun _ _ => rfl))) (pe_one (d_cmp (o_eq (by have z := hu64 hr; exact z)) r_eq (d_call (pe_callB call_len rfl T.z_len bt_len (d_cons (d_var (pv 2)) d_nil)) r_len) (d_call (pe_callB call_len rfl T.z_len bt_len (d_cons (d_var (pv 1)) d_nil)) r_len) (nomark _)))))) d_next)
  (d_one (d_ret (d_andV (d_chain op_le op_le r_le r_le (d_con pe_int (fun _ _ => rfl)) (d_call (pe_callB call_len rfl T.z_len bt_len (d_cons (d_var (pv 1)) d_nil)) r_len) (d_gc rfl T.c_VESSELS (fun _ _ => rfl))) (pe_one (d_cmp (o_eq (by have z := hu64 hr; exact z)) r_eq (d_call (pe_callB call_len rfl T.z_len bt_len (d_cons (d_var (pv 2)) d_nil)) r_len) (d_op op_sub r_sub (d_call (pe_callB call_len rfl T.z_len bt_len (d_cons (d_var (pv 1)) d_nil)) r_len) (d_con pe_int (fun _ _ => rfl))) (nomark _))))))))) : Cal P w K L mg base 1 "counts_fit" 3 c_counts_fit)

abbrev st_ladles_fit : Stmt := top 15
theorem S_ladles_fit : FnScope N_ladles_fit ["cellar"] (defScope st_ladles_fit) := ⟨rfl, rfl, rfl, by decide +kernel, rfl, by decide +kernel, by decide +kernel⟩
theorem ok_ladles_fit (T : Txt K mg L) : Cal P w K L mg base 3 "ladles_fit" 1 c_ladles_fit :=
  ((cal_of (k := 2) (N := N_ladles_fit) (ps := ["cellar"]) (b := b_ladles_fit) T.d_ladles_fit S_ladles_fit (fun _ _ F => F.binds fun _ _ _ _ _ _ us hl => match us, hl with | [_], _ => rfl) (fun f cdv A outer s H E hr hgd => by
    have tk := takes_of (X := cxOf (L2.CX P w) P w K mg base N_ladles_fit "ladles_fit" (defScope st_ladles_fit) f cdv A outer s H E) rfl rfl rfl rfl
    have pas : PassesOwn (model P w) _ _ (cxOf (L2.CX P w) P w K mg base N_ladles_fit "ladles_fit" (defScope st_ladles_fit) f cdv A outer s H E).xe := passes_of (X := cxOf (L2.CX P w) P w K mg base N_ladles_fit "ladles_fit" (defScope st_ladles_fit) f cdv A outer s H E) rfl
    exact (d_seq (d_for pas rfl (d_enum (pi_enumA rfl T.z_enumerate (d_cons (d_ix ix_seq r_ix (d_var (pv 0)) (d_con pe_int (fun _ _ => rfl)) (fun _ _ => rfl)) d_nil))) (d_tupG (is := [1, 2]) (pg_tup rfl (pgs_cons (pg_name (i := 1) S_ladles_fit.nd rfl (by first | exact Or.inl rfl | exact Or.inr rfl)) (pgs_cons (pg_name (i := 2) S_ladles_fit.nd rfl (by first | exact Or.inl rfl | exact Or.inr rfl)) pgs_nil))) (fun _ _ => fr0)) (d_one (d_ifS (d_tcmp (o_ne (by have z := hu64 hr; exact z)) r_ne (d_lc (own := [("vessel", 3)]) rfl S_ladles_fit.nd (d_items (d_callC (ok_ends T) (hr.mono (by decide)) hgd rfl tk (d_cons (d_var (pv 0)) (d_cons (d_var (pv 1)) d_nil)))) (blkOk_by (N := N_ladles_fit) (sc := defScope st_ladles_fit) (by decide +kernel)) (tg_name _ fr0) (fun _ _ => fr0) (fun _ _ _ _ _ => (pg_name (i := 3) S_ladles_fit.nd rfl (by first | exact Or.inl rfl | exact Or.inr rfl))) (fun _ _ _ _ _ => (d_if1 (d_tcmp op_lt r_lt (d_ix ix_seq r_ix (d_ix ix_seq r_ix (d_var (pv 0)) (d_con pe_int (fun _ _ => rfl)) (fun _ _ => rfl)) (d_var (pv 3)) (fun _ _ => rfl)) (d_var (pv 2)) (nomark _)))) (fun _ _ _ _ _ => (d_var (pv 3)))) (d_lst d_nil) (nomark _)) (d_one (d_ret (d_con pe_bl (fun _ _ => rfl)))) d_next)))
  (d_one (d_ret (d_orV (d_notV (d_callC (ok_is_ring T) (hr.mono (by decide)) hgd rfl tk (d_cons (d_var (pv 0)) d_nil))) (pe_one (d_cmp op_le r_le (d_callC (ok_multiple T) (hr.mono (by decide)) hgd rfl tk (d_cons (d_ix ix_seq r_ix (d_var (pv 0)) (d_con pe_int (fun _ _ => rfl)) (fun _ _ => rfl)) d_nil)) (d_gc rfl T.c_COMMON (fun _ _ => rfl)) (nomark _))))))))) : Cal P w K L mg base 3 "ladles_fit" 1 c_ladles_fit)

abbrev st_is_cellar : Stmt := top 16
theorem S_is_cellar : FnScope N_is_cellar ["thing"] (defScope st_is_cellar) := ⟨rfl, rfl, rfl, by decide +kernel, rfl, by decide +kernel, by decide +kernel⟩
theorem ok_is_cellar (T : Txt K mg L) : Cal P w K L mg base 4 "is_cellar" 1 c_is_cellar :=
  ((cal_of (k := 3) (N := N_is_cellar) (ps := ["thing"]) (b := b_is_cellar) T.d_is_cellar S_is_cellar (fun _ _ F => F.binds fun _ _ _ _ _ _ us hl => match us, hl with | [_], _ => rfl) (fun f cdv A outer s H E hr hgd => by
    have tk := takes_of (X := cxOf (L2.CX P w) P w K mg base N_is_cellar "is_cellar" (defScope st_is_cellar) f cdv A outer s H E) rfl rfl rfl rfl
    have pas : PassesOwn (model P w) _ _ (cxOf (L2.CX P w) P w K mg base N_is_cellar "is_cellar" (defScope st_is_cellar) f cdv A outer s H E).xe := passes_of (X := cxOf (L2.CX P w) P w K mg base N_is_cellar "is_cellar" (defScope st_is_cellar) f cdv A outer s H E) rfl
    exact (d_seq (d_ifS (PW.pt (d_or (d_not (d_tval (d_isi rfl T.z_isinstance rfl (d_var (pv 0)) (pe_bltn rfl T.z_tuple bt_tuple rfl)))) (pw_or1 (d_tcmp (o_ne (by have z := hu64 hr; exact z)) r_ne (d_call (pe_callB call_len rfl T.z_len bt_len (d_cons (d_var (pv 0)) d_nil)) r_len) (d_con pe_int (fun _ _ => rfl)) (nomark _))))) (d_one (d_ret (d_con pe_bl (fun _ _ => rfl)))) d_next)
  (d_seq (d_asg (d_var (pv 0)) (d_tupG (is := [1, 2, 3]) (pg_tup rfl (pgs_cons (pg_name (i := 1) S_is_cellar.nd rfl (by first | exact Or.inl rfl | exact Or.inr rfl)) (pgs_cons (pg_name (i := 2) S_is_cellar.nd rfl (by first | exact Or.inl rfl | exact Or.inr rfl)) (pgs_cons (pg_name (i := 3) S_is_cellar.nd rfl (by first | exact Or.inl rfl | exact Or.inr rfl)) pgs_nil)))) (fun _ _ => fr0)))
  (d_seq (d_ifS (PW.pt (d_or (d_not (d_tval (d_isi rfl T.z_isinstance rfl (d_var (pv 1)) (pe_bltn rfl T.z_str bt_str rfl)))) (pw_or1 (d_tcmp (o_notInX (by have z := hu65 hr; exact z)) r_notIn (d_var (pv 1)) (d_tup (d_cons (d_con pe_str (fun _ _ => rfl)) (d_cons (d_con pe_str (fun _ _ => rfl)) d_nil))) (by with_unfolding_all rfl))))) (d_one (d_ret (d_con pe_bl (fun _ _ => rfl)))) d_next)
  (d_seq (d_ifS (PW.pt (d_or (d_not (d_tval (d_callC (ok_is_row_of T) (hr.mono (by decide)) hgd rfl tk (d_cons (d_var (pv 2)) (d_cons (d_con pe_int (fun _ _ => rfl)) (d_cons (d_gc rfl T.c_MOST (fun _ _ => rfl)) d_nil)))))) (pw_or1 (d_not (d_tval (d_callC (ok_is_row_of T) (hr.mono (by decide)) hgd rfl tk (d_cons (d_var (pv 3)) (d_cons (d_con pe_int (fun _ _ => rfl)) (d_cons (d_gc rfl T.c_GREAT (fun _ _ => rfl)) d_nil))))))))) (d_one (d_ret (d_con pe_bl (fun _ _ => rfl)))) d_next)
  (d_one (d_ret (d_andV (d_callC (ok_counts_fit T) (hr.mono (by decide)) hgd rfl tk (d_cons (d_var (pv 1)) (d_cons (d_var (pv 2)) (d_cons (d_var (pv 3)) d_nil)))) (pe_one (d_callC (ok_ladles_fit T) (hr.mono (by decide)) hgd rfl tk (d_cons (d_var (pv 0)) d_nil)))))))))))) : Cal P w K L mg base 4 "is_cellar" 1 c_is_cellar)

abbrev st_numbers_text : Stmt := top 23
theorem S_numbers_text : FnScope N_numbers_text ["some"] (defScope st_numbers_text) := ⟨rfl, rfl, rfl, by decide +kernel, rfl, by decide +kernel, by decide +kernel⟩
theorem ok_numbers_text (T : Txt K mg L) : Cal P w K L mg base 1 "numbers_text" 1 c_numbers_text :=
  ((cal_of (k := 0) (N := N_numbers_text) (ps := ["some"]) (b := b_numbers_text) T.d_numbers_text S_numbers_text (fun _ _ F => F.binds fun _ _ _ _ _ _ us hl => match us, hl with | [_], _ => rfl) (fun f cdv A outer s H E hr hgd => by
    have tk := takes_of (X := cxOf (L2.CX P w) P w K mg base N_numbers_text "numbers_text" (defScope st_numbers_text) f cdv A outer s H E) rfl rfl rfl rfl
    have pas : PassesOwn (model P w) _ _ (cxOf (L2.CX P w) P w K mg base N_numbers_text "numbers_text" (defScope st_numbers_text) f cdv A outer s H E).xe := passes_of (X := cxOf (L2.CX P w) P w K mg base N_numbers_text "numbers_text" (defScope st_numbers_text) f cdv A outer s H E) rfl
    exact (d_one (d_ret (d_meth (pe_bm PySem.F.plainAttrs_str PySem.F.slot_str_join PySem.F.type_str_join mt_join (d_con pe_str (fun _ _ => rfl)) (d_cons (d_lc (own := [("number", 1)]) rfl S_numbers_text.nd (d_items (d_var (pv 0))) (blkOk_by (N := N_numbers_text) (sc := defScope st_numbers_text) (by decide +kernel)) (tg_name _ fr0) (fun _ _ => fr0) (fun _ _ _ _ _ => (pg_name (i := 1) S_numbers_text.nd rfl (by first | exact Or.inl rfl | exact Or.inr rfl))) (fun _ _ _ _ _ => d_yes) (fun _ _ _ _ _ => (d_call (pe_callTy call_str_int rfl T.z_str bt_str (d_cons (d_var (pv 1)) d_nil)) r_str))) d_nil)) r_join chkS_ok))))) : Cal P w K L mg base 1 "numbers_text" 1 c_numbers_text)

abbrev st_cellar_text : Stmt := top 24
theorem S_cellar_text : FnScope N_cellar_text ["cellar"] (defScope st_cellar_text) := ⟨rfl, rfl, rfl, by decide +kernel, rfl, by decide +kernel, by decide +kernel⟩
theorem ok_cellar_text (T : Txt K mg L) : Cal P w K L mg base 2 "cellar_text" 1 c_cellar_text :=
  ((cal_of (k := 1) (N := N_cellar_text) (ps := ["cellar"]) (b := b_cellar_text) T.d_cellar_text S_cellar_text (fun _ _ F => F.binds fun _ _ _ _ _ _ us hl => match us, hl with | [_], _ => rfl) (fun f cdv A outer s H E hr hgd => by
    have tk := takes_of (X := cxOf (L2.CX P w) P w K mg base N_cellar_text "cellar_text" (defScope st_cellar_text) f cdv A outer s H E) rfl rfl rfl rfl
    have pas : PassesOwn (model P w) _ _ (cxOf (L2.CX P w) P w K mg base N_cellar_text "cellar_text" (defScope st_cellar_text) f cdv A outer s H E).xe := passes_of (X := cxOf (L2.CX P w) P w K mg base N_cellar_text "cellar_text" (defScope st_cellar_text) f cdv A outer s H E) rfl
    exact (d_seq (d_asg (d_var (pv 0)) (d_tupG (is := [1, 2, 3]) (pg_tup rfl (pgs_cons (pg_name (i := 1) S_cellar_text.nd rfl (by first | exact Or.inl rfl | exact Or.inr rfl)) (pgs_cons (pg_name (i := 2) S_cellar_text.nd rfl (by first | exact Or.inl rfl | exact Or.inr rfl)) (pgs_cons (pg_name (i := 3) S_cellar_text.nd rfl (by first | exact Or.inl rfl | exact Or.inr rfl)) pgs_nil)))) (fun _ _ => fr0)))
  (d_seq (d_set (ps_set (i := 4) S_cellar_text.nd rfl (by first | exact Or.inl rfl | exact Or.inr rfl) (d_lstS (d_cons (d_js (fs := [(un fmtD (var 1)), (con (.str (PySem.Str.ofString " "))), (un fmtD (callE (arity 1 c_numbers_text) (consA (var 2) nilA)))]) (PJ.cons (d_fmt (d_var (pv 1))) (PJ.cons (d_con pe_str (fun _ _ => rfl)) (PJ.cons (d_fmt (d_callC (ok_numbers_text T) (hr.mono (by decide)) hgd rfl tk (d_cons (d_var (pv 2)) d_nil))) PJ.nil)))) d_nil))) fr0)
  (d_seq (d_ifS (d_tcmp (o_ne (by have z := hu64 hr; exact z)) r_ne (d_var (pv 3)) (d_tup d_nil) (nomark _)) (d_one (d_expr (d_append (pe_bm PySem.F.plainAttrs_list PySem.F.slot_list_append PySem.F.type_list_append mt_append (d_var (pv 4)) (d_cons (d_callC (ok_numbers_text T) (hr.mono (by decide)) hgd rfl tk (d_cons (d_var (pv 3)) d_nil)) d_nil))))) d_next)
  (d_one (d_ret (d_meth (pe_bm PySem.F.plainAttrs_str PySem.F.slot_str_join PySem.F.type_str_join mt_join (d_con pe_str (fun _ _ => rfl)) (d_cons (d_var (pv 4)) d_nil)) r_join chkS_ok)))))))).gc : Cal P w K L mg base 2 "cellar_text" 1 c_cellar_text)

abbrev st_number_told : Stmt := top 25
theorem S_number_told : FnScope N_number_told ["word"] (defScope st_number_told) := ⟨rfl, rfl, rfl, by decide +kernel, rfl, by decide +kernel, by decide +kernel⟩
theorem ok_number_told (T : Txt K mg L) : Cal P w K L mg base 1 "number_told" 1 c_number_told :=
  ((cal_of (k := 0) (N := N_number_told) (ps := ["word"]) (b := b_number_told) T.d_number_told S_number_told (fun _ _ F => F.binds fun _ _ _ _ _ _ us hl => match us, hl with | [_], _ => rfl) (fun f cdv A outer s H E hr hgd => by
    have tk := takes_of (X := cxOf (L2.CX P w) P w K mg base N_number_told "number_told" (defScope st_number_told) f cdv A outer s H E) rfl rfl rfl rfl
    have pas : PassesOwn (model P w) _ _ (cxOf (L2.CX P w) P w K mg base N_number_told "number_told" (defScope st_number_told) f cdv A outer s H E).xe := passes_of (X := cxOf (L2.CX P w) P w K mg base N_number_told "number_told" (defScope st_number_told) f cdv A outer s H E) rfl
    exact (d_seq (d_ifS (PW.pt (d_or (d_not (d_tchain op_le op_le r_le r_le (d_con pe_int (fun _ _ => rfl)) (d_call (pe_callB call_len rfl T.z_len bt_len (d_cons (d_var (pv 0)) d_nil)) r_len) (d_gc rfl T.c_LONGEST (fun _ _ => rfl)))) (d_or (d_tcmp (o_ne (by have z := hu64 hr; exact z)) r_ne (d_meth (pe_bm PySem.F.plainAttrs_str PySem.F.slot_str_strip PySem.F.type_str_strip mt_stripChars (d_var (pv 0)) (d_cons (d_gc rfl T.c_FIGURES (fun _ _ => rfl)) d_nil)) r_stripC chkS_ok) (d_con pe_str (fun _ _ => rfl)) (nomark _)) (pw_or1 (PW.pt (d_and (d_tcmp op_gt r_gt (d_call (pe_callB call_len rfl T.z_len bt_len (d_cons (d_var (pv 0)) d_nil)) r_len) (d_con pe_int (fun _ _ => rfl)) (nomark _)) (pw_and1 (d_tcmp (o_eq (by have z := hu64 hr; exact z)) r_eq (d_ix ix_seq r_ix (d_var (pv 0)) (d_con pe_int (fun _ _ => rfl)) (fun _ _ => rfl)) (d_con pe_str (fun _ _ => rfl)) (nomark _))))))))) (d_one (d_raise rfl tk (d_er0 T.e_NoText T.x (by decide +kernel) rfl))) d_next)
  (d_one (d_ret (d_call (pe_callTy o_int rfl T.z_int bt_int (d_cons (d_var (pv 0)) d_nil)) r_intX)))))) : Cal P w K L mg base 1 "number_told" 1 c_number_told)

abbrev st_numbers_told : Stmt := top 26
theorem S_numbers_told : FnScope N_numbers_told ["words"] (defScope st_numbers_told) := ⟨rfl, rfl, rfl, by decide +kernel, rfl, by decide +kernel, by decide +kernel⟩
theorem ok_numbers_told (T : Txt K mg L) : Cal P w K L mg base 2 "numbers_told" 1 c_numbers_told :=
  ((cal_of (k := 1) (N := N_numbers_told) (ps := ["words"]) (b := b_numbers_told) T.d_numbers_told S_numbers_told (fun _ _ F => F.binds fun _ _ _ _ _ _ us hl => match us, hl with | [_], _ => rfl) (fun f cdv A outer s H E hr hgd => by
    have tk := takes_of (X := cxOf (L2.CX P w) P w K mg base N_numbers_told "numbers_told" (defScope st_numbers_told) f cdv A outer s H E) rfl rfl rfl rfl
    have pas : PassesOwn (model P w) _ _ (cxOf (L2.CX P w) P w K mg base N_numbers_told "numbers_told" (defScope st_numbers_told) f cdv A outer s H E).xe := passes_of (X := cxOf (L2.CX P w) P w K mg base N_numbers_told "numbers_told" (defScope st_numbers_told) f cdv A outer s H E) rfl
    exact (d_one (d_ret (d_call (pe_callTy call_tuple_of rfl T.z_tuple bt_tuple (d_cons (d_lc (own := [("word", 1)]) rfl S_numbers_told.nd (d_items (d_var (pv 0))) (blkOk_by (N := N_numbers_told) (sc := defScope st_numbers_told) (by decide +kernel)) (tg_name _ fr0) (fun _ _ => fr0) (fun _ _ _ _ _ => (pg_name (i := 1) S_numbers_told.nd rfl (by first | exact Or.inl rfl | exact Or.inr rfl))) (fun _ _ _ _ _ => d_yes) (fun _ _ _ _ _ => (d_callC (ok_number_told T) (hr.mono (by decide)) hgd rfl tk0 (d_cons (d_var (pv 1)) d_nil)))) d_nil)) r_tuple))))) : Cal P w K L mg base 2 "numbers_told" 1 c_numbers_told)

abbrev st_read_cellar : Stmt := top 27
theorem S_read_cellar : FnScope N_read_cellar ["thing"] (defScope st_read_cellar) := ⟨rfl, rfl, rfl, by decide +kernel, rfl, by decide +kernel, by decide +kernel⟩
theorem ok_read_cellar (T : Txt K mg L) : Cal P w K L mg base 5 "read_cellar" 1 c_read_cellar :=
  ((cal_of (k := 4) (N := N_read_cellar) (ps := ["thing"]) (b := b_read_cellar) T.d_read_cellar S_read_cellar (fun _ _ F => F.binds fun _ _ _ _ _ _ us hl => match us, hl with | [_], _ => rfl) (fun f cdv A outer s H E hr hgd => by
    have tk := takes_of (X := cxOf (L2.CX P w) P w K mg base N_read_cellar "read_cellar" (defScope st_read_cellar) f cdv A outer s H E) rfl rfl rfl rfl
    have pas : PassesOwn (model P w) _ _ (cxOf (L2.CX P w) P w K mg base N_read_cellar "read_cellar" (defScope st_read_cellar) f cdv A outer s H E).xe := passes_of (X := cxOf (L2.CX P w) P w K mg base N_read_cellar "read_cellar" (defScope st_read_cellar) f cdv A outer s H E) rfl
    exact (d_seq (d_ifS (d_not (d_tval (d_isi rfl T.z_isinstance rfl (d_var (pv 0)) (pe_bltn rfl T.z_str bt_str rfl)))) (d_one (d_raise rfl tk (d_er0 T.e_NoText T.x (by decide +kernel) rfl))) d_next)
  (d_seq (d_set (ps_set (i := 1) S_read_cellar.nd rfl (by first | exact Or.inl rfl | exact Or.inr rfl) (d_meth (pe_bm PySem.F.plainAttrs_str PySem.F.slot_str_split PySem.F.type_str_split mt_split (d_var (pv 0)) (d_cons (d_con pe_str (fun _ _ => rfl)) d_nil)) r_split chkS_ok)) fr0)
  (d_seq (d_ifS (d_tcmp op_gt r_gt (d_call (pe_callB call_len rfl T.z_len bt_len (d_cons (d_var (pv 1)) d_nil)) r_len) (d_con pe_int (fun _ _ => rfl)) (nomark _)) (d_one (d_raise rfl tk (d_er0 T.e_NoText T.x (by decide +kernel) rfl))) d_next)
  (d_seq (d_asg (d_meth (pe_bm PySem.F.plainAttrs_str PySem.F.slot_str_split PySem.F.type_str_split mt_split (d_ix ix_seq r_ix (d_var (pv 1)) (d_con pe_int (fun _ _ => rfl)) (fun _ _ => rfl)) (d_cons (d_con pe_str (fun _ _ => rfl)) d_nil)) r_split chkS_ok) (d_starG rfl (pgs_cons (pg_name (i := 2) S_read_cellar.nd rfl (by first | exact Or.inl rfl | exact Or.inr rfl)) (pgs_cons (pg_name (i := 3) S_read_cellar.nd rfl (by first | exact Or.inl rfl | exact Or.inr rfl)) pgs_nil)) fr0 fr0))
  (d_seq (d_set (ps_set (i := 4) S_read_cellar.nd rfl (by first | exact Or.inl rfl | exact Or.inr rfl) (d_tup d_nil)) fr0)
  (d_seq (d_ifS (d_tcmp (o_eq (by have z := hu64 hr; exact z)) r_eq (d_call (pe_callB call_len rfl T.z_len bt_len (d_cons (d_var (pv 1)) d_nil)) r_len) (d_con pe_int (fun _ _ => rfl)) (nomark _)) (d_one (d_set (ps_set (i := 4) S_read_cellar.nd rfl (by first | exact Or.inl rfl | exact Or.inr rfl) (d_callC (ok_numbers_told T) (hr.mono (by decide)) hgd rfl tk (d_cons (d_meth (pe_bm PySem.F.plainAttrs_str PySem.F.slot_str_split PySem.F.type_str_split mt_split (d_ix ix_seq r_ix (d_var (pv 1)) (d_con pe_int (fun _ _ => rfl)) (fun _ _ => rfl)) (d_cons (d_con pe_str (fun _ _ => rfl)) d_nil)) r_split chkS_ok) d_nil))) fr0)) d_next)
  (d_seq (d_set (ps_set (i := 5) S_read_cellar.nd rfl (by first | exact Or.inl rfl | exact Or.inr rfl) (d_tup (d_cons (d_var (pv 2)) (d_cons (d_callC (ok_numbers_told T) (hr.mono (by decide)) hgd rfl tk (d_cons (d_var (pv 3)) d_nil)) (d_cons (d_var (pv 4)) d_nil))))) fr0)
  (d_seq (d_ifS (d_not (d_tval (d_callC (ok_is_cellar T) (hr.mono (by decide)) hgd rfl tk (d_cons (d_var (pv 5)) d_nil)))) (d_one (d_raise rfl tk (d_er0 T.e_NoText T.x (by decide +kernel) rfl))) d_next)
  (d_one (d_ret (d_var (pv 5)))))))))))))) : Cal P w K L mg base 5 "read_cellar" 1 c_read_cellar)

abbrev st_stream : Stmt := top 29
theorem S_stream : FnScope N_stream ["script", "own"] (defScope st_stream) := ⟨rfl, rfl, rfl, by decide +kernel, rfl, by decide +kernel, by decide +kernel⟩
theorem ok_stream (T : Txt K mg L) : Cal P w K L mg base 1 "_law_stream" 2 c_stream :=
  ((cal_of (k := 0) (N := N_stream) (ps := ["script", "own"]) (b := b_stream) T.d_stream S_stream (fun _ _ F => F.binds fun _ _ _ _ _ _ us hl => match us, hl with | [_, _], _ => rfl) (fun f cdv A outer s H E hr hgd => by
    have tk := takes_of (X := cxOf (L2.CX P w) P w K mg base N_stream "_law_stream" (defScope st_stream) f cdv A outer s H E) rfl rfl rfl rfl
    have pas : PassesOwn (model P w) _ _ (cxOf (L2.CX P w) P w K mg base N_stream "_law_stream" (defScope st_stream) f cdv A outer s H E).xe := passes_of (X := cxOf (L2.CX P w) P w K mg base N_stream "_law_stream" (defScope st_stream) f cdv A outer s H E) rfl
    exact (d_one (d_ret (d_lstS (d_cons (d_lc (own := [("cell", 2)]) rfl S_stream.nd (d_items (d_slice (d_var (pv 0)) d_noB (d_intB (d_con pe_int (fun _ _ => rfl))))) (blkOk_by (N := N_stream) (sc := defScope st_stream) (by decide +kernel)) (tg_name _ fr0) (fun _ _ => fr0) (fun _ _ _ _ _ => (pg_name (i := 2) S_stream.nd rfl (by first | exact Or.inl rfl | exact Or.inr rfl))) (fun _ _ _ _ _ => d_yes) (fun _ _ _ _ _ => (d_call (pe_callB call_abs rfl T.z_abs bt_abs (d_cons (d_var (pv 2)) d_nil)) r_abs))) (d_cons (d_con pe_int (fun _ _ => rfl)) (d_cons (d_con pe_int (fun _ _ => rfl)) (d_cons (d_var (pv 1)) d_nil))))))))) : Cal P w K L mg base 1 "_law_stream" 2 c_stream)

abbrev st_take : Stmt := top 30
theorem S_take : FnScope N_take ["stream", "below"] (defScope st_take) := ⟨rfl, rfl, rfl, by decide +kernel, rfl, by decide +kernel, by decide +kernel⟩
theorem ok_take (T : Txt K mg L) : Cal P w K L mg base 1 "_law_take" 2 c_take :=
  ((cal_of (k := 0) (N := N_take) (ps := ["stream", "below"]) (b := b_take) T.d_take S_take (fun _ _ F => F.binds fun _ _ _ _ _ _ us hl => match us, hl with | [_, _], _ => rfl) (fun f cdv A outer s H E hr hgd => by
    have tk := takes_of (X := cxOf (L2.CX P w) P w K mg base N_take "_law_take" (defScope st_take) f cdv A outer s H E) rfl rfl rfl rfl
    have pas : PassesOwn (model P w) _ _ (cxOf (L2.CX P w) P w K mg base N_take "_law_take" (defScope st_take) f cdv A outer s H E).xe := passes_of (X := cxOf (L2.CX P w) P w K mg base N_take "_law_take" (defScope st_take) f cdv A outer s H E) rfl
    exact (d_seq (d_asg (d_var (pv 0)) (d_lstG (is := [2, 3, 4, 5]) (pg_lst rfl (pgs_cons (pg_name (i := 2) S_take.nd rfl (by first | exact Or.inl rfl | exact Or.inr rfl)) (pgs_cons (pg_name (i := 3) S_take.nd rfl (by first | exact Or.inl rfl | exact Or.inr rfl)) (pgs_cons (pg_name (i := 4) S_take.nd rfl (by first | exact Or.inl rfl | exact Or.inr rfl)) (pgs_cons (pg_name (i := 5) S_take.nd rfl (by first | exact Or.inl rfl | exact Or.inr rfl)) pgs_nil))))) (fun _ _ => fr0)))
  (d_seq (d_asg (d_op o_add r_add (d_var (pv 5)) (d_con pe_int (fun _ _ => rfl))) (d_subG (pg_sub (d_var (pv 0)) (d_con pe_int (fun _ _ => rfl)) set_list)))
  (d_seq (d_ifS (PW.pt (d_and (d_tcmp (o_eq (by have z := hu64 hr; exact z)) r_eq (d_var (pv 4)) (d_con pe_int (fun _ _ => rfl)) (nomark _)) (pw_and1 (d_tcmp op_lt r_lt (d_var (pv 3)) (d_call (pe_callB call_len rfl T.z_len bt_len (d_cons (d_var (pv 2)) d_nil)) r_len) (nomark _))))) (d_seq (d_asg (d_op o_add r_add (d_var (pv 3)) (d_con pe_int (fun _ _ => rfl))) (d_subG (pg_sub (d_var (pv 0)) (d_con pe_int (fun _ _ => rfl)) set_list)))
  (d_one (d_set (ps_set (i := 4) S_take.nd rfl (by first | exact Or.inl rfl | exact Or.inr rfl) (d_op o_mul r_mul (d_ix ix_seq r_ix (d_var (pv 2)) (d_var (pv 3)) (fun _ _ => rfl)) (d_call (pe_callTy o_int rfl T.z_int bt_int (d_cons (d_cmp op_ge r_ge (d_ix ix_seq r_ix (d_var (pv 2)) (d_var (pv 3)) (fun _ _ => rfl)) (d_op op_pow r_pow (d_con pe_int (fun _ _ => rfl)) (d_con pe_int (fun _ _ => rfl))) (nomark _)) d_nil)) r_intX))) fr0))) d_next)
  (d_seq (d_asg (d_op op_fdivW r_fdiv (d_var (pv 4)) (d_var (pv 1))) (d_subG (pg_sub (d_var (pv 0)) (d_con pe_int (fun _ _ => rfl)) set_list)))
  (d_seq (d_ifS (d_tcmp op_gt r_gt (d_var (pv 4)) (d_con pe_int (fun _ _ => rfl)) (nomark _)) (d_one (d_ret (d_op op_mod r_mod (d_var (pv 4)) (d_var (pv 1))))) d_next)
  (d_seq (d_set (ps_set (i := 6) S_take.nd rfl (by first | exact Or.inl rfl | exact Or.inr rfl) (d_op op_mod r_mod (d_op op_pow r_pow (d_op o_add r_add (d_op o_mul r_mul (d_var (pv 5)) (d_con pe_int (fun _ _ => rfl))) (d_con pe_int (fun _ _ => rfl))) (d_con pe_int (fun _ _ => rfl))) (d_con pe_int (fun _ _ => rfl)))) fr0)
  (d_seq (d_ifS (d_tcmp (o_ne (by have z := hu64 hr; exact z)) r_ne (d_var (pv 2)) (d_lst d_nil) (nomark _)) (d_one (d_set (ps_set (i := 6) S_take.nd rfl (by first | exact Or.inl rfl | exact Or.inr rfl) (d_op o_add r_add (d_var (pv 6)) (d_op o_mul r_mul (d_op op_mod r_mod (d_ix ix_seq r_ix (d_var (pv 2)) (d_op op_mod r_mod (d_op o_mul r_mul (d_var (pv 5)) (d_con pe_int (fun _ _ => rfl))) (d_call (pe_callB call_len rfl T.z_len bt_len (d_cons (d_var (pv 2)) d_nil)) r_len)) (fun _ _ => rfl)) (d_con pe_int (fun _ _ => rfl))) (d_op o_add r_add (d_var (pv 5)) (d_con pe_int (fun _ _ => rfl)))))) fr0)) d_next)
  (d_seq (d_set (ps_set (i := 6) S_take.nd rfl (by first | exact Or.inl rfl | exact Or.inr rfl) (d_op op_mod r_mod (d_var (pv 6)) (d_con pe_int (fun _ _ => rfl)))) fr0)
  (d_one (d_ret (d_op op_mod r_mod (d_op op_fdivW r_fdiv (d_op op_mod r_mod (d_op o_mul r_mul (d_var (pv 6)) (d_var (pv 6))) (d_con pe_int (fun _ _ => rfl))) (d_con pe_int (fun _ _ => rfl))) (d_var (pv 1))))))))))))))) : Cal P w K L mg base 1 "_law_take" 2 c_take)

abbrev st_far : Stmt := top 31
theorem S_far : FnScope N_far ["stream", "most"] (defScope st_far) := ⟨rfl, rfl, rfl, by decide +kernel, rfl, by decide +kernel, by decide +kernel⟩
theorem ok_far (T : Txt K mg L) : Cal P w K L mg base 2 "_law_far" 2 c_far :=
  ((cal_of (k := 1) (N := N_far) (ps := ["stream", "most"]) (b := b_far) T.d_far S_far (fun _ _ F => F.binds fun _ _ _ _ _ _ us hl => match us, hl with | [_, _], _ => rfl) (fun f cdv A outer s H E hr hgd => by
    have tk := takes_of (X := cxOf (L2.CX P w) P w K mg base N_far "_law_far" (defScope st_far) f cdv A outer s H E) rfl rfl rfl rfl
    have pas : PassesOwn (model P w) _ _ (cxOf (L2.CX P w) P w K mg base N_far "_law_far" (defScope st_far) f cdv A outer s H E).xe := passes_of (X := cxOf (L2.CX P w) P w K mg base N_far "_law_far" (defScope st_far) f cdv A outer s H E) rfl
    exact (d_seq (d_set (ps_set (i := 2) S_far.nd rfl (by first | exact Or.inl rfl | exact Or.inr rfl) (d_call (pe_callB (call_min2 rfl) rfl T.z_min bt_min (d_cons (d_var (pv 1)) (d_cons (d_ix ix_seq r_ix (d_lst (d_cons (d_var (pv 1)) (d_cons (d_con pe_int (fun _ _ => rfl)) (d_cons (d_con pe_int (fun _ _ => rfl)) (d_cons (d_op op_pow r_pow (d_con pe_int (fun _ _ => rfl)) (d_con pe_int (fun _ _ => rfl))) d_nil))))) (d_callC (ok_take T) (hr.mono (by decide)) hgd rfl tk (d_cons (d_var (pv 0)) (d_cons (d_con pe_int (fun _ _ => rfl)) d_nil))) (fun _ _ => rfl)) d_nil))) r_min2)) fr0)
  (d_seq (d_set (ps_set (i := 3) S_far.nd rfl (by first | exact Or.inl rfl | exact Or.inr rfl) (d_callC (ok_take T) (hr.mono (by decide)) hgd rfl tk (d_cons (d_var (pv 0)) (d_cons (d_var (pv 2)) d_nil)))) fr0)
  (d_one (d_ret (d_ix ix_seq r_ix (d_lst (d_cons (d_var (pv 3)) (d_cons (d_op op_sub r_sub (d_op op_sub r_sub (d_var (pv 1)) (d_con pe_int (fun _ _ => rfl))) (d_var (pv 3))) d_nil))) (d_call (pe_callTy o_int rfl T.z_int bt_int (d_cons (d_cmp (o_eq (by have z := hu64 hr; exact z)) r_eq (d_callC (ok_take T) (hr.mono (by decide)) hgd rfl tk (d_cons (d_var (pv 0)) (d_cons (d_con pe_int (fun _ _ => rfl)) d_nil))) (d_con pe_int (fun _ _ => rfl)) (nomark _)) d_nil)) r_intX) (fun _ _ => rfl)))))))) : Cal P w K L mg base 2 "_law_far" 2 c_far)

abbrev st_lcell : Stmt := top 32
theorem S_lcell : FnScope N_lcell ["stream"] (defScope st_lcell) := ⟨rfl, rfl, rfl, by decide +kernel, rfl, by decide +kernel, by decide +kernel⟩
theorem ok_lcell (T : Txt K mg L) : Cal P w K L mg base 3 "_law_cellar" 1 c_lcell :=
  ((cal_of (k := 2) (N := N_lcell) (ps := ["stream"]) (b := b_lcell) T.d_lcell S_lcell (fun _ _ F => F.binds fun _ _ _ _ _ _ us hl => match us, hl with | [_], _ => rfl) (fun f cdv A outer s H E hr hgd => by
    have tk := takes_of (X := cxOf (L2.CX P w) P w K mg base N_lcell "_law_cellar" (defScope st_lcell) f cdv A outer s H E) rfl rfl rfl rfl
    have pas : PassesOwn (model P w) _ _ (cxOf (L2.CX P w) P w K mg base N_lcell "_law_cellar" (defScope st_lcell) f cdv A outer s H E).xe := passes_of (X := cxOf (L2.CX P w) P w K mg base N_lcell "_law_cellar" (defScope st_lcell) f cdv A outer s H E) rfl
    exact (d_seq (d_set (ps_set (i := 1) S_lcell.nd rfl (by first | exact Or.inl rfl | exact Or.inr rfl) (d_cmp (o_eq (by have z := hu64 hr; exact z)) r_eq (d_callC (ok_take T) (hr.mono (by decide)) hgd rfl tk (d_cons (d_var (pv 0)) (d_cons (d_con pe_int (fun _ _ => rfl)) d_nil))) (d_con pe_int (fun _ _ => rfl)) (nomark _))) fr0)
  (d_seq (d_set (ps_set (i := 2) S_lcell.nd rfl (by first | exact Or.inl rfl | exact Or.inr rfl) (d_ix ix_seq r_ix (d_lst (d_cons (d_op o_add r_add (d_con pe_int (fun _ _ => rfl)) (d_callC (ok_take T) (hr.mono (by decide)) hgd rfl tk (d_cons (d_var (pv 0)) (d_cons (d_con pe_int (fun _ _ => rfl)) d_nil)))) (d_cons (d_op o_add r_add (d_con pe_int (fun _ _ => rfl)) (d_callC (ok_take T) (hr.mono (by decide)) hgd rfl tk (d_cons (d_var (pv 0)) (d_cons (d_con pe_int (fun _ _ => rfl)) d_nil)))) d_nil))) (d_call (pe_callTy o_int rfl T.z_int bt_int (d_cons (d_var (pv 1)) d_nil)) r_intX) (fun _ _ => rfl))) fr0)
  (d_seq (d_set (ps_set (i := 3) S_lcell.nd rfl (by first | exact Or.inl rfl | exact Or.inr rfl) (d_lst (d_cons (d_con pe_int (fun _ _ => rfl)) (d_cons (d_con pe_int (fun _ _ => rfl)) (d_cons (d_con pe_int (fun _ _ => rfl)) (d_cons (d_con pe_int (fun _ _ => rfl)) (d_cons (d_con pe_int (fun _ _ => rfl)) (d_cons (d_con pe_int (fun _ _ => rfl)) (d_cons (d_con pe_int (fun _ _ => rfl)) (d_cons (d_con pe_int (fun _ _ => rfl)) (d_cons (d_con pe_int (fun _ _ => rfl)) (d_cons (d_con pe_int (fun _ _ => rfl)) (d_cons (d_con pe_int (fun _ _ => rfl)) (d_cons (d_con pe_int (fun _ _ => rfl)) (d_cons (d_con pe_int (fun _ _ => rfl)) (d_cons (d_con pe_int (fun _ _ => rfl)) (d_cons (d_con pe_int (fun _ _ => rfl)) (d_cons (d_con pe_int (fun _ _ => rfl)) d_nil)))))))))))))))))) fr0)
  (d_seq (d_set (ps_set (i := 4) S_lcell.nd rfl (by first | exact Or.inl rfl | exact Or.inr rfl) (d_lstS d_nil)) fr0)
  (d_seq (d_for pas rfl (d_range1 (pi_range1 rfl T.z_range (d_cons (d_op op_sub r_sub (d_var (pv 2)) (d_call (pe_callTy o_int rfl T.z_int bt_int (d_cons (d_notV (d_var (pv 1))) d_nil)) r_intX)) d_nil))) (d_nameG (pg_name (i := 5) S_lcell.nd rfl (by first | exact Or.inl rfl | exact Or.inr rfl)) fr0) (d_one (d_expr (d_append (pe_bm PySem.F.plainAttrs_list PySem.F.slot_list_append PySem.F.type_list_append mt_append (d_var (pv 4)) (d_cons (d_ix ix_seq r_ix (d_lst (d_cons (d_op o_add r_add (d_con pe_int (fun _ _ => rfl)) (d_callC (ok_far T) (hr.mono (by decide)) hgd rfl tk (d_cons (d_var (pv 0)) (d_cons (d_op o_mul r_mul (d_con pe_int (fun _ _ => rfl)) (d_op op_pow r_pow (d_con pe_int (fun _ _ => rfl)) (d_con pe_int (fun _ _ => rfl)))) d_nil)))) (d_cons (d_ix ix_seq r_ix (d_var (pv 3)) (d_callC (ok_take T) (hr.mono (by decide)) hgd rfl tk (d_cons (d_var (pv 0)) (d_cons (d_con pe_int (fun _ _ => rfl)) d_nil))) (fun _ _ => rfl)) d_nil))) (d_call (pe_callTy o_int rfl T.z_int bt_int (d_cons (d_var (pv 1)) d_nil)) r_intX) (fun _ _ => rfl)) d_nil))))))
  (d_seq (d_set (ps_set (i := 6) S_lcell.nd rfl (by first | exact Or.inl rfl | exact Or.inr rfl) (d_lstS d_nil)) fr0)
  (d_seq (d_for pas rfl (d_range1 (pi_range1 rfl T.z_range (d_cons (d_var (pv 2)) d_nil))) (d_nameG (pg_name (i := 7) S_lcell.nd rfl (by first | exact Or.inl rfl | exact Or.inr rfl)) fr0) (d_seq (d_setLc (ps_setLc (i := 8) (own := [("k", 5)]) rfl S_lcell.nd rfl rfl (sw_true rfl rfl rfl (by decide +kernel)) (d_items (d_lst (d_cons (d_op op_sub r_sub (d_var (pv 7)) (d_con pe_int (fun _ _ => rfl))) (d_cons (d_var (pv 7)) d_nil)))) (blkOk_by (N := N_lcell) (sc := defScope st_lcell) (by decide +kernel)) (fun _ _ _ _ _ => (pg_name (i := 5) S_lcell.nd rfl (by first | exact Or.inl rfl | exact Or.inr rfl))) (fun _ _ _ _ _ => (d_if1 (PW.pt (d_or (d_tval (d_var (pv 1))) (pw_or1 (d_tchain op_le op_lt r_le r_lt (d_con pe_int (fun _ _ => rfl)) (d_var (pv 5)) (d_call (pe_callB call_len rfl T.z_len bt_len (d_cons (d_var (pv 4)) d_nil)) r_len))))))) (fun _ _ _ _ _ => (d_ix ix_seq r_ix (d_var (pv 4)) (d_var (pv 5)) (fun _ _ => rfl)))) (tg_name _ fr0) (fun _ _ => fr0) fr0)
  (d_seq (d_set (ps_set (i := 9) S_lcell.nd rfl (by first | exact Or.inl rfl | exact Or.inr rfl) (d_call (pe_callB (cr_max rfl) rfl T.z_max bt_max (d_cons (d_op o_add r_add (d_lst (d_cons (d_con pe_int (fun _ _ => rfl)) d_nil)) (d_var (pv 8))) d_nil)) r_max)) fr0)
  (d_one (d_expr (d_append (pe_bm PySem.F.plainAttrs_list PySem.F.slot_list_append PySem.F.type_list_append mt_append (d_var (pv 6)) (d_cons (d_op o_add r_add (d_var (pv 9)) (d_callC (ok_far T) (hr.mono (by decide)) hgd rfl tk (d_cons (d_var (pv 0)) (d_cons (d_op o_add r_add (d_op op_sub r_sub (d_op op_pow r_pow (d_con pe_int (fun _ _ => rfl)) (d_con pe_int (fun _ _ => rfl))) (d_var (pv 9))) (d_con pe_int (fun _ _ => rfl))) d_nil)))) d_nil))))))))
  (d_one (d_ret (d_tup (d_cons (d_ix ix_seq r_ix (d_lst (d_cons (d_con pe_str (fun _ _ => rfl)) (d_cons (d_con pe_str (fun _ _ => rfl)) d_nil))) (d_call (pe_callTy o_int rfl T.z_int bt_int (d_cons (d_var (pv 1)) d_nil)) r_intX) (fun _ _ => rfl)) (d_cons (d_call (pe_callTy call_tuple_of rfl T.z_tuple bt_tuple (d_cons (d_var (pv 6)) d_nil)) r_tuple) (d_cons (d_call (pe_callTy call_tuple_of rfl T.z_tuple bt_tuple (d_cons (d_var (pv 4)) d_nil)) r_tuple) d_nil))))))))))))))).gc : Cal P w K L mg base 3 "_law_cellar" 1 c_lcell)

abbrev st_same : Stmt := top 33
theorem S_same : FnScope N_same ["found", "due"] (defScope st_same) := ⟨rfl, rfl, rfl, by decide +kernel, rfl, by decide +kernel, by decide +kernel⟩
theorem ok_same (T : Txt K mg L) : ∀ m : Nat, Cal P w K L mg base (1 + m) "_law_same" 2 (c_same m)
  | 0 => cal_bad ["found", "due"] T.d_same (fun _ _ F => F.binds fun _ _ _ _ _ _ us hl => match us, hl with | [_, _], _ => rfl)
  | m + 1 => ((cal_of (N := N_same) (ps := ["found", "due"]) (b := b_same (c_same m)) T.d_same S_same (fun _ _ F => F.binds fun _ _ _ _ _ _ us hl => match us, hl with | [_, _], _ => rfl) (fun f cdv A outer s H E hr hgd => by
    have tk := takes_of (X := cxOf (L2.CX P w) P w K mg base N_same "_law_same" (defScope st_same) f cdv A outer s H E) rfl rfl rfl rfl
    have pas : PassesOwn (model P w) _ _ (cxOf (L2.CX P w) P w K mg base N_same "_law_same" (defScope st_same) f cdv A outer s H E).xe := passes_of (X := cxOf (L2.CX P w) P w K mg base N_same "_law_same" (defScope st_same) f cdv A outer s H E) rfl
    have hself := ok_same T m
    have hrs := hr
    have hr := hr.mono (Nat.le_add_right 1 m)
    exact (d_seq (d_ifS (d_tval (d_isi rfl T.z_isinstance rfl (d_var (pv 1)) (pe_bltn rfl T.z_tuple bt_tuple rfl))) (d_seq (d_ifS (PW.pt (d_or (d_not (d_tval (d_isi rfl T.z_isinstance rfl (d_var (pv 0)) (pe_bltn rfl T.z_tuple bt_tuple rfl)))) (pw_or1 (d_tcmp (o_ne (by have z := hu64 hr; exact z)) r_ne (d_call (pe_callB call_len rfl T.z_len bt_len (d_cons (d_var (pv 0)) d_nil)) r_len) (d_call (pe_callB call_len rfl T.z_len bt_len (d_cons (d_var (pv 1)) d_nil)) r_len) (nomark _))))) (d_one (d_ret (d_con pe_bl (fun _ _ => rfl)))) d_next)
  (d_one (d_ret (d_cmp (o_eq (by have z := hu64 hr; exact z)) r_eq (d_lc (own := [("k", 2)]) rfl S_same.nd (d_range1 (pi_range1 rfl T.z_range (d_cons (d_call (pe_callB call_len rfl T.z_len bt_len (d_cons (d_var (pv 1)) d_nil)) r_len) d_nil))) (blkOk_by (N := N_same) (sc := defScope st_same) (by decide +kernel)) (tg_name _ fr0) (fun _ _ => fr0) (fun _ _ _ _ _ => (pg_name (i := 2) S_same.nd rfl (by first | exact Or.inl rfl | exact Or.inr rfl))) (fun _ _ _ _ _ => (d_if1 (d_not (d_tval (d_callC hself hrs hgd rfl tk0 (d_cons (d_ix ix_seq r_ix (d_var (pv 0)) (d_var (pv 2)) (fun _ _ => rfl)) (d_cons (d_ix ix_seq r_ix (d_var (pv 1)) (d_var (pv 2)) (fun _ _ => rfl)) d_nil))))))) (fun _ _ _ _ _ => (d_var (pv 2)))) (d_lst d_nil) (nomark _))))) d_next)
  (d_seq (d_ifS (PW.pt (d_or (d_tval (d_isi rfl T.z_isinstance rfl (d_var (pv 1)) (pe_bltn rfl T.z_bool bt_bool rfl))) (pw_or1 (d_tval (d_isi rfl T.z_isinstance rfl (d_var (pv 0)) (pe_bltn rfl T.z_bool bt_bool rfl)))))) (d_one (d_ret (d_andV (d_isi rfl T.z_isinstance rfl (d_var (pv 1)) (pe_bltn rfl T.z_bool bt_bool rfl)) (d_andV (d_isi rfl T.z_isinstance rfl (d_var (pv 0)) (pe_bltn rfl T.z_bool bt_bool rfl)) (pe_one (d_cmp (o_eq (by have z := hu64 hr; exact z)) r_eq (d_var (pv 0)) (d_var (pv 1)) (nomark _))))))) d_next)
  (d_seq (d_ifS (PW.pt (d_or (d_tval (d_isi rfl T.z_isinstance rfl (d_var (pv 1)) (pe_bltn rfl T.z_str bt_str rfl))) (pw_or1 (d_tval (d_isi rfl T.z_isinstance rfl (d_var (pv 0)) (pe_bltn rfl T.z_str bt_str rfl)))))) (d_one (d_ret (d_andV (d_isi rfl T.z_isinstance rfl (d_var (pv 1)) (pe_bltn rfl T.z_str bt_str rfl)) (d_andV (d_isi rfl T.z_isinstance rfl (d_var (pv 0)) (pe_bltn rfl T.z_str bt_str rfl)) (pe_one (d_cmp (o_eq (by have z := hu64 hr; exact z)) r_eq (d_var (pv 0)) (d_var (pv 1)) (nomark _))))))) d_next)
  (d_one (d_ret (d_cmp (o_eq (by have z := hu64 hr; exact z)) r_eq (d_var (pv 0)) (d_var (pv 1)) (nomark _))))))))) : Cal P w K L mg base (1 + m + 1) "_law_same" 2 (c_same (m + 1)))

def N_law_text : List Str := ["cellar", "found", "size", "k"]
abbrev st_law_text : Stmt := top 34
theorem S_law_text : FnScope N_law_text ["cellar"] (defScope st_law_text) := ⟨rfl, rfl, rfl, by decide +kernel, rfl, by decide +kernel, by decide +kernel⟩
def b_law_text : DS :=
  (seqS (asgS (bin ixD (var 0) (con (.int 0))) (nameG 1))
  (seqS (forS (itemsI (bin ixD (var 0) (con (.int 1)))) (nameG 2) (asgS (bin addD (bin addD (var 1) (con (.str (PySem.Str.ofString " ")))) (callV strD (consA (var 2) nilA))) (nameG 1)))
  (seqS (forS (range1I (consA (callV lenD (consA (bin ixD (var 0) (con (.int 2))) nilA)) nilA)) (nameG 3) (asgS (bin addD (bin addD (bin addD (var 1) (bin mulD (con (.str (PySem.Str.ofString ","))) (callV intX (consA (bin eqD (var 3) (con (.int 0))) nilA)))) (con (.str (PySem.Str.ofString " ")))) (callV strD (consA (bin ixD (bin ixD (var 0) (con (.int 2))) (var 3)) nilA))) (nameG 1)))
  (retS (var 1)))))
def c_law_text : List D → Sto → O D := runB 4 (b_law_text)
theorem e_law_text (x0 : D) (st : Sto) : c_law_text [x0] st = finB (b_law_text [some x0, none, none, none] st) := (runB_ap 4 (b_law_text) [x0] st).trans (congrArg (fun r => finB (b_law_text r st)) (show [x0].map some ++ List.replicate (4 - [x0].length) none = [some x0, none, none, none] from rfl))
theorem ok_law_text (T : Txt K mg L) : Cal P w K L mg base 1 "_law_text" 1 c_law_text :=
  ((cal_of (k := 0) (N := N_law_text) (ps := ["cellar"]) (b := b_law_text) T.d_law_text S_law_text (fun _ _ F => F.binds fun _ _ _ _ _ _ us hl => match us, hl with | [_], _ => rfl) (fun f cdv A outer s H E hr hgd => by
    have tk := takes_of (X := cxOf (L2.CX P w) P w K mg base N_law_text "_law_text" (defScope st_law_text) f cdv A outer s H E) rfl rfl rfl rfl
    have pas : PassesOwn (model P w) _ _ (cxOf (L2.CX P w) P w K mg base N_law_text "_law_text" (defScope st_law_text) f cdv A outer s H E).xe := passes_of (X := cxOf (L2.CX P w) P w K mg base N_law_text "_law_text" (defScope st_law_text) f cdv A outer s H E) rfl
    exact (d_seq (d_set (ps_set (i := 1) S_law_text.nd rfl (by first | exact Or.inl rfl | exact Or.inr rfl) (d_ix ix_seq r_ix (d_var (pv 0)) (d_con pe_int (fun _ _ => rfl)) (fun _ _ => rfl))) fr0)
  (d_seq (d_for pas rfl (d_items (d_ix ix_seq r_ix (d_var (pv 0)) (d_con pe_int (fun _ _ => rfl)) (fun _ _ => rfl))) (d_nameG (pg_name (i := 2) S_law_text.nd rfl (by first | exact Or.inl rfl | exact Or.inr rfl)) fr0) (d_one (d_set (ps_set (i := 1) S_law_text.nd rfl (by first | exact Or.inl rfl | exact Or.inr rfl) (d_op o_add r_add (d_op o_add r_add (d_var (pv 1)) (d_con pe_str (fun _ _ => rfl))) (d_call (pe_callTy call_str_int rfl T.z_str bt_str (d_cons (d_var (pv 2)) d_nil)) r_str))) fr0)))
  (d_seq (d_for pas rfl (d_range1 (pi_range1 rfl T.z_range (d_cons (d_call (pe_callB call_len rfl T.z_len bt_len (d_cons (d_ix ix_seq r_ix (d_var (pv 0)) (d_con pe_int (fun _ _ => rfl)) (fun _ _ => rfl)) d_nil)) r_len) d_nil))) (d_nameG (pg_name (i := 3) S_law_text.nd rfl (by first | exact Or.inl rfl | exact Or.inr rfl)) fr0) (d_one (d_set (ps_set (i := 1) S_law_text.nd rfl (by first | exact Or.inl rfl | exact Or.inr rfl) (d_op o_add r_add (d_op o_add r_add (d_op o_add r_add (d_var (pv 1)) (d_op o_mul r_mul (d_con pe_str (fun _ _ => rfl)) (d_call (pe_callTy o_int rfl T.z_int bt_int (d_cons (d_cmp (o_eq (by have z := hu64 hr; exact z)) r_eq (d_var (pv 3)) (d_con pe_int (fun _ _ => rfl)) (nomark _)) d_nil)) r_intX))) (d_con pe_str (fun _ _ => rfl))) (d_call (pe_callTy call_str_int rfl T.z_str bt_str (d_cons (d_ix ix_seq r_ix (d_ix ix_seq r_ix (d_var (pv 0)) (d_con pe_int (fun _ _ => rfl)) (fun _ _ => rfl)) (d_var (pv 3)) (fun _ _ => rfl)) d_nil)) r_str))) fr0)))
  (d_one (d_ret (d_var (pv 1))))))))) : Cal P w K L mg base 1 "_law_text" 1 c_law_text)

def N_law : List Str := ["script", "stream", "some", "turn", "texts", "cellar", "kept", "k"]
abbrev st_law : Stmt := top 35
theorem S_law : FnScope N_law ["script"] (defScope st_law) := ⟨rfl, rfl, rfl, by decide +kernel, rfl, by decide +kernel, by decide +kernel⟩
def b_law : DS :=
  (seqS (asgS (callE (arity 2 c_stream) (consA (var 0) (consA (con (.int 88)) nilA))) (nameG 1))
  (seqS (asgS (lcE (range1I (consA (con (.int 6)) nilA)) (slot1 3) [3] yesT (callE (arity 1 c_lcell) (consA (var 1) nilA))) (nameG 2))
  (seqS (asgS (lcE (itemsI (var 2)) (slot1 5) [5] yesT (callE (arity 1 c_law_text) (consA (var 5) nilA))) (nameG 4))
  (seqS (asgS (callV reprD (consA (var 2) nilA)) (nameG 6))
  (seqS (forS (range1I (consA (con (.int 2)) nilA)) (nameG 3) (forS (range1I (consA (con (.int 6)) nilA)) (nameG 7) (ifS (orT (notT (asT (callE (arity 2 (c_same 8)) (consA (callE (arity 1 c_cellar_text) (consA (bin ixD (var 2) (var 7)) nilA)) (consA (bin ixD (var 4) (var 7)) nilA))))) (notT (asT (callE (arity 2 (c_same 8)) (consA (callE (arity 1 c_read_cellar) (consA (bin ixD (var 4) (var 7)) nilA)) (consA (bin ixD (var 2) (var 7)) nilA)))))) (retS (con (.bl false))) nextS)))
  (retS (andV (bin eqD (callV reprD (consA (var 2) nilA)) (var 6)) (callE (arity 2 (c_same 8)) (consA (callE (arity 1 c_read_cellar) (consA (con (.str (PySem.Str.ofString "row 7"))) nilA)) (consA (tupE (consA (con (.str (PySem.Str.ofString "row"))) (consA (tupE (consA (con (.int 7)) nilA)) (consA (tupE nilA) nilA)))) nilA))))))))))
def c_law : List D → Sto → O D := runB 8 (b_law)
theorem e_law (x0 : D) (st : Sto) : c_law [x0] st = finB (b_law [some x0, none, none, none, none, none, none, none] st) := (runB_ap 8 (b_law) [x0] st).trans (congrArg (fun r => finB (b_law r st)) (show [x0].map some ++ List.replicate (8 - [x0].length) none = [some x0, none, none, none, none, none, none, none] from rfl))
theorem ok_law (T : Txt K mg L) : Cal P w K L mg base 10 "law" 1 c_law :=
  ((cal_of (k := 9) (N := N_law) (ps := ["script"]) (b := b_law) T.d_law S_law (fun _ _ F => F.binds fun _ _ _ _ _ _ us hl => match us, hl with | [_], _ => rfl) (fun f cdv A outer s H E hr hgd => by
    have tk := takes_of (X := cxOf (L2.CX P w) P w K mg base N_law "law" (defScope st_law) f cdv A outer s H E) rfl rfl rfl rfl
    have pas : PassesOwn (model P w) _ _ (cxOf (L2.CX P w) P w K mg base N_law "law" (defScope st_law) f cdv A outer s H E).xe := passes_of (X := cxOf (L2.CX P w) P w K mg base N_law "law" (defScope st_law) f cdv A outer s H E) rfl
    exact (d_seq (d_set (ps_set (i := 1) S_law.nd rfl (by first | exact Or.inl rfl | exact Or.inr rfl) (d_callC (ok_stream T) (hr.mono (by decide)) hgd rfl tk (d_cons (d_var (pv 0)) (d_cons (d_con pe_int (fun _ _ => rfl)) d_nil)))) fr0)
  (d_seq (d_setLc (ps_setLc (i := 2) (own := [("turn", 3)]) rfl S_law.nd rfl rfl (sw_true rfl rfl rfl (by decide +kernel)) (d_range1 (pi_range1 rfl T.z_range (d_cons (d_con pe_int (fun _ _ => rfl)) d_nil))) (blkOk_by (N := N_law) (sc := defScope st_law) (by decide +kernel)) (fun _ _ _ _ _ => (pg_name (i := 3) S_law.nd rfl (by first | exact Or.inl rfl | exact Or.inr rfl))) (fun _ _ _ _ _ => d_yes) (fun _ _ _ _ _ => (d_callC (ok_lcell T) (hr.mono (by decide)) hgd rfl tk0 (d_cons (d_var (pv 1)) d_nil)))) (tg_name _ fr0) (fun _ _ => fr0) fr0)
  (d_seq (d_setLc (ps_setLc (i := 4) (own := [("cellar", 5)]) rfl S_law.nd rfl rfl (sw_true rfl rfl rfl (by decide +kernel)) (d_items (d_var (pv 2))) (blkOk_by (N := N_law) (sc := defScope st_law) (by decide +kernel)) (fun _ _ _ _ _ => (pg_name (i := 5) S_law.nd rfl (by first | exact Or.inl rfl | exact Or.inr rfl))) (fun _ _ _ _ _ => d_yes) (fun _ _ _ _ _ => (d_callC (ok_law_text T) (hr.mono (by decide)) hgd rfl tk0 (d_cons (d_var (pv 5)) d_nil)))) (tg_name _ fr0) (fun _ _ => fr0) fr0)
  (d_seq (d_set (ps_set (i := 6) S_law.nd rfl (by first | exact Or.inl rfl | exact Or.inr rfl) (d_call (pe_callB (call_repr (by have z := hu65 hr; exact z) (by exact hgd)) rfl T.z_repr bt_repr (d_cons (d_var (pv 2)) d_nil)) r_repr)) fr0)
  (d_seq (d_for pas rfl (d_range1 (pi_range1 rfl T.z_range (d_cons (d_con pe_int (fun _ _ => rfl)) d_nil))) (d_nameG (pg_name (i := 3) S_law.nd rfl (by first | exact Or.inl rfl | exact Or.inr rfl)) fr0) (d_one (d_for pas rfl (d_range1 (pi_range1 rfl T.z_range (d_cons (d_con pe_int (fun _ _ => rfl)) d_nil))) (d_nameG (pg_name (i := 7) S_law.nd rfl (by first | exact Or.inl rfl | exact Or.inr rfl)) fr0) (d_one (d_ifS (PW.pt (d_or (d_not (d_tval (d_callC (ok_same T 8) (hr.mono (by decide)) hgd rfl tk (d_cons (d_callC (ok_cellar_text T) (hr.mono (by decide)) hgd rfl tk (d_cons (d_ix ix_seq r_ix (d_var (pv 2)) (d_var (pv 7)) (fun _ _ => rfl)) d_nil)) (d_cons (d_ix ix_seq r_ix (d_var (pv 4)) (d_var (pv 7)) (fun _ _ => rfl)) d_nil))))) (pw_or1 (d_not (d_tval (d_callC (ok_same T 8) (hr.mono (by decide)) hgd rfl tk (d_cons (d_callC (ok_read_cellar T) (hr.mono (by decide)) hgd rfl tk (d_cons (d_ix ix_seq r_ix (d_var (pv 4)) (d_var (pv 7)) (fun _ _ => rfl)) d_nil)) (d_cons (d_ix ix_seq r_ix (d_var (pv 2)) (d_var (pv 7)) (fun _ _ => rfl)) d_nil)))))))) (d_one (d_ret (d_con pe_bl (fun _ _ => rfl)))) d_next)))))
  (d_one (d_ret (d_andV (d_cmp (o_eq (by have z := hu64 hr; exact z)) r_eq (d_call (pe_callB (call_repr (by have z := hu65 hr; exact z) (by exact hgd)) rfl T.z_repr bt_repr (d_cons (d_var (pv 2)) d_nil)) r_repr) (d_var (pv 6)) (nomark _)) (pe_one (d_callC (ok_same T 8) (hr.mono (by decide)) hgd rfl tk (d_cons (d_callC (ok_read_cellar T) (hr.mono (by decide)) hgd rfl tk (d_cons (d_con pe_str (fun _ _ => rfl)) d_nil)) (d_cons (d_tup (d_cons (d_con pe_str (fun _ _ => rfl)) (d_cons (d_tup (d_cons (d_con pe_int (fun _ _ => rfl)) d_nil)) (d_cons (d_tup d_nil) d_nil)))) d_nil)))))))))))))) : Cal P w K L mg base 10 "law" 1 c_law)
end

theorem mk_txt {K : PySem.W.Frag} {h : Heap} {mg : Str → Option Value} (X : K.In h) (G : h.Ns mainGlobals mg) {p : Program} (XX : PySem.W.XL p [((PySem.Str.ofString "MOST"), PySem.W.WData.int 1000000000000), ((PySem.Str.ofString "GREAT"), PySem.W.WData.int 500000000000)] mg h) {a_LadleError a_NoText : Addr} 
  (h_LadleError : PySem.W.nsIn K mainGlobals "LadleError" = some (some (.ref a_LadleError)))
  (h_NoText : PySem.W.nsIn K mainGlobals "NoText" = some (some (.ref a_NoText)))
  (hz_abs : PySem.W.nsIn K mainGlobals "abs" = some none)
  (hz_all : PySem.W.nsIn K mainGlobals "all" = some none)
  (hz_bool : PySem.W.nsIn K mainGlobals "bool" = some none)
  (hz_enumerate : PySem.W.nsIn K mainGlobals "enumerate" = some none)
  (hz_int : PySem.W.nsIn K mainGlobals "int" = some none)
  (hz_isinstance : PySem.W.nsIn K mainGlobals "isinstance" = some none)
  (hz_len : PySem.W.nsIn K mainGlobals "len" = some none)
  (hz_max : PySem.W.nsIn K mainGlobals "max" = some none)
  (hz_min : PySem.W.nsIn K mainGlobals "min" = some none)
  (hz_range : PySem.W.nsIn K mainGlobals "range" = some none)
  (hz_repr : PySem.W.nsIn K mainGlobals "repr" = some none)
  (hz_str : PySem.W.nsIn K mainGlobals "str" = some none)
  (hz_tuple : PySem.W.nsIn K mainGlobals "tuple" = some none)
  {t_ROUND : Tok}
  (hc_ROUND : PySem.W.nsIn K mainGlobals "ROUND" = some (some (.int 6 t_ROUND)))
  {t_VESSELS : Tok}
  (hc_VESSELS : PySem.W.nsIn K mainGlobals "VESSELS" = some (some (.int 12 t_VESSELS)))
  {t_COMMON : Tok}
  (hc_COMMON : PySem.W.nsIn K mainGlobals "COMMON" = some (some (.int 840 t_COMMON)))
  {t_LONGEST : Tok}
  (hc_LONGEST : PySem.W.nsIn K mainGlobals "LONGEST" = some (some (.int 13 t_LONGEST)))
  {t_FIGURES : Tok}
  (hc_FIGURES : PySem.W.nsIn K mainGlobals "FIGURES" = some (some (.str (PySem.Str.ofString "0123456789") t_FIGURES)))
  {f_is_whole : Addr} {od_is_whole an_is_whole : Option Addr} {sl_is_whole : Array (Option Value)} {oc_is_whole kV_is_whole dc_is_whole pm_is_whole cd_is_whole ct_is_whole : Value}
  (h_a_is_whole : PySem.W.nsIn K mainGlobals "is_whole" = some (some (.ref f_is_whole)))
  (h_l_is_whole : K.lookup f_is_whole = some ⟨oc_is_whole, od_is_whole, .func (PySem.W.fnOf "is_whole" "is_whole" (defArgs (top 6)) (defBody (top 6)) (defScope (top 6)) .none kV_is_whole dc_is_whole pm_is_whole an_is_whole cd_is_whole ct_is_whole), sl_is_whole⟩)
  (h_c_is_whole : PySem.W.codeIn K cd_is_whole "is_whole" = true)
  (h_k_is_whole : PySem.W.keepIn K (.ref f_is_whole) = true)
  {f_is_from : Addr} {od_is_from an_is_from : Option Addr} {sl_is_from : Array (Option Value)} {oc_is_from kV_is_from dc_is_from pm_is_from cd_is_from ct_is_from : Value}
  (h_a_is_from : PySem.W.nsIn K mainGlobals "is_from" = some (some (.ref f_is_from)))
  (h_l_is_from : K.lookup f_is_from = some ⟨oc_is_from, od_is_from, .func (PySem.W.fnOf "is_from" "is_from" (defArgs (top 7)) (defBody (top 7)) (defScope (top 7)) .none kV_is_from dc_is_from pm_is_from an_is_from cd_is_from ct_is_from), sl_is_from⟩)
  (h_c_is_from : PySem.W.codeIn K cd_is_from "is_from" = true)
  (h_k_is_from : PySem.W.keepIn K (.ref f_is_from) = true)
  {f_is_row_of : Addr} {od_is_row_of an_is_row_of : Option Addr} {sl_is_row_of : Array (Option Value)} {oc_is_row_of kV_is_row_of dc_is_row_of pm_is_row_of cd_is_row_of ct_is_row_of : Value}
  (h_a_is_row_of : PySem.W.nsIn K mainGlobals "is_row_of" = some (some (.ref f_is_row_of)))
  (h_l_is_row_of : K.lookup f_is_row_of = some ⟨oc_is_row_of, od_is_row_of, .func (PySem.W.fnOf "is_row_of" "is_row_of" (defArgs (top 8)) (defBody (top 8)) (defScope (top 8)) .none kV_is_row_of dc_is_row_of pm_is_row_of an_is_row_of cd_is_row_of ct_is_row_of), sl_is_row_of⟩)
  (h_c_is_row_of : PySem.W.codeIn K cd_is_row_of "is_row_of" = true)
  (h_k_is_row_of : PySem.W.keepIn K (.ref f_is_row_of) = true)
  {f_measure : Addr} {od_measure an_measure : Option Addr} {sl_measure : Array (Option Value)} {oc_measure kV_measure dc_measure pm_measure cd_measure ct_measure : Value}
  (h_a_measure : PySem.W.nsIn K mainGlobals "measure" = some (some (.ref f_measure)))
  (h_l_measure : K.lookup f_measure = some ⟨oc_measure, od_measure, .func (PySem.W.fnOf "measure" "measure" (defArgs (top 9)) (defBody (top 9)) (defScope (top 9)) .none kV_measure dc_measure pm_measure an_measure cd_measure ct_measure), sl_measure⟩)
  (h_c_measure : PySem.W.codeIn K cd_measure "measure" = true)
  (h_k_measure : PySem.W.keepIn K (.ref f_measure) = true)
  {f_multiple : Addr} {od_multiple an_multiple : Option Addr} {sl_multiple : Array (Option Value)} {oc_multiple kV_multiple dc_multiple pm_multiple cd_multiple ct_multiple : Value}
  (h_a_multiple : PySem.W.nsIn K mainGlobals "multiple" = some (some (.ref f_multiple)))
  (h_l_multiple : K.lookup f_multiple = some ⟨oc_multiple, od_multiple, .func (PySem.W.fnOf "multiple" "multiple" (defArgs (top 10)) (defBody (top 10)) (defScope (top 10)) .none kV_multiple dc_multiple pm_multiple an_multiple cd_multiple ct_multiple), sl_multiple⟩)
  (h_c_multiple : PySem.W.codeIn K cd_multiple "multiple" = true)
  (h_k_multiple : PySem.W.keepIn K (.ref f_multiple) = true)
  {f_is_ring : Addr} {od_is_ring an_is_ring : Option Addr} {sl_is_ring : Array (Option Value)} {oc_is_ring kV_is_ring dc_is_ring pm_is_ring cd_is_ring ct_is_ring : Value}
  (h_a_is_ring : PySem.W.nsIn K mainGlobals "is_ring" = some (some (.ref f_is_ring)))
  (h_l_is_ring : K.lookup f_is_ring = some ⟨oc_is_ring, od_is_ring, .func (PySem.W.fnOf "is_ring" "is_ring" (defArgs (top 12)) (defBody (top 12)) (defScope (top 12)) .none kV_is_ring dc_is_ring pm_is_ring an_is_ring cd_is_ring ct_is_ring), sl_is_ring⟩)
  (h_c_is_ring : PySem.W.codeIn K cd_is_ring "is_ring" = true)
  (h_k_is_ring : PySem.W.keepIn K (.ref f_is_ring) = true)
  {f_ends : Addr} {od_ends an_ends : Option Addr} {sl_ends : Array (Option Value)} {oc_ends kV_ends dc_ends pm_ends cd_ends ct_ends : Value}
  (h_a_ends : PySem.W.nsIn K mainGlobals "ends" = some (some (.ref f_ends)))
  (h_l_ends : K.lookup f_ends = some ⟨oc_ends, od_ends, .func (PySem.W.fnOf "ends" "ends" (defArgs (top 13)) (defBody (top 13)) (defScope (top 13)) .none kV_ends dc_ends pm_ends an_ends cd_ends ct_ends), sl_ends⟩)
  (h_c_ends : PySem.W.codeIn K cd_ends "ends" = true)
  (h_k_ends : PySem.W.keepIn K (.ref f_ends) = true)
  {f_counts_fit : Addr} {od_counts_fit an_counts_fit : Option Addr} {sl_counts_fit : Array (Option Value)} {oc_counts_fit kV_counts_fit dc_counts_fit pm_counts_fit cd_counts_fit ct_counts_fit : Value}
  (h_a_counts_fit : PySem.W.nsIn K mainGlobals "counts_fit" = some (some (.ref f_counts_fit)))
  (h_l_counts_fit : K.lookup f_counts_fit = some ⟨oc_counts_fit, od_counts_fit, .func (PySem.W.fnOf "counts_fit" "counts_fit" (defArgs (top 14)) (defBody (top 14)) (defScope (top 14)) .none kV_counts_fit dc_counts_fit pm_counts_fit an_counts_fit cd_counts_fit ct_counts_fit), sl_counts_fit⟩)
  (h_c_counts_fit : PySem.W.codeIn K cd_counts_fit "counts_fit" = true)
  (h_k_counts_fit : PySem.W.keepIn K (.ref f_counts_fit) = true)
  {f_ladles_fit : Addr} {od_ladles_fit an_ladles_fit : Option Addr} {sl_ladles_fit : Array (Option Value)} {oc_ladles_fit kV_ladles_fit dc_ladles_fit pm_ladles_fit cd_ladles_fit ct_ladles_fit : Value}
  (h_a_ladles_fit : PySem.W.nsIn K mainGlobals "ladles_fit" = some (some (.ref f_ladles_fit)))
  (h_l_ladles_fit : K.lookup f_ladles_fit = some ⟨oc_ladles_fit, od_ladles_fit, .func (PySem.W.fnOf "ladles_fit" "ladles_fit" (defArgs (top 15)) (defBody (top 15)) (defScope (top 15)) .none kV_ladles_fit dc_ladles_fit pm_ladles_fit an_ladles_fit cd_ladles_fit ct_ladles_fit), sl_ladles_fit⟩)
  (h_c_ladles_fit : PySem.W.codeIn K cd_ladles_fit "ladles_fit" = true)
  (h_k_ladles_fit : PySem.W.keepIn K (.ref f_ladles_fit) = true)
  {f_is_cellar : Addr} {od_is_cellar an_is_cellar : Option Addr} {sl_is_cellar : Array (Option Value)} {oc_is_cellar kV_is_cellar dc_is_cellar pm_is_cellar cd_is_cellar ct_is_cellar : Value}
  (h_a_is_cellar : PySem.W.nsIn K mainGlobals "is_cellar" = some (some (.ref f_is_cellar)))
  (h_l_is_cellar : K.lookup f_is_cellar = some ⟨oc_is_cellar, od_is_cellar, .func (PySem.W.fnOf "is_cellar" "is_cellar" (defArgs (top 16)) (defBody (top 16)) (defScope (top 16)) .none kV_is_cellar dc_is_cellar pm_is_cellar an_is_cellar cd_is_cellar ct_is_cellar), sl_is_cellar⟩)
  (h_c_is_cellar : PySem.W.codeIn K cd_is_cellar "is_cellar" = true)
  (h_k_is_cellar : PySem.W.keepIn K (.ref f_is_cellar) = true)
  {f_numbers_text : Addr} {od_numbers_text an_numbers_text : Option Addr} {sl_numbers_text : Array (Option Value)} {oc_numbers_text kV_numbers_text dc_numbers_text pm_numbers_text cd_numbers_text ct_numbers_text : Value}
  (h_a_numbers_text : PySem.W.nsIn K mainGlobals "numbers_text" = some (some (.ref f_numbers_text)))
  (h_l_numbers_text : K.lookup f_numbers_text = some ⟨oc_numbers_text, od_numbers_text, .func (PySem.W.fnOf "numbers_text" "numbers_text" (defArgs (top 23)) (defBody (top 23)) (defScope (top 23)) .none kV_numbers_text dc_numbers_text pm_numbers_text an_numbers_text cd_numbers_text ct_numbers_text), sl_numbers_text⟩)
  (h_c_numbers_text : PySem.W.codeIn K cd_numbers_text "numbers_text" = true)
  (h_k_numbers_text : PySem.W.keepIn K (.ref f_numbers_text) = true)
  {f_cellar_text : Addr} {od_cellar_text an_cellar_text : Option Addr} {sl_cellar_text : Array (Option Value)} {oc_cellar_text kV_cellar_text dc_cellar_text pm_cellar_text cd_cellar_text ct_cellar_text : Value}
  (h_a_cellar_text : PySem.W.nsIn K mainGlobals "cellar_text" = some (some (.ref f_cellar_text)))
  (h_l_cellar_text : K.lookup f_cellar_text = some ⟨oc_cellar_text, od_cellar_text, .func (PySem.W.fnOf "cellar_text" "cellar_text" (defArgs (top 24)) (defBody (top 24)) (defScope (top 24)) .none kV_cellar_text dc_cellar_text pm_cellar_text an_cellar_text cd_cellar_text ct_cellar_text), sl_cellar_text⟩)
  (h_c_cellar_text : PySem.W.codeIn K cd_cellar_text "cellar_text" = true)
  (h_k_cellar_text : PySem.W.keepIn K (.ref f_cellar_text) = true)
  {f_number_told : Addr} {od_number_told an_number_told : Option Addr} {sl_number_told : Array (Option Value)} {oc_number_told kV_number_told dc_number_told pm_number_told cd_number_told ct_number_told : Value}
  (h_a_number_told : PySem.W.nsIn K mainGlobals "number_told" = some (some (.ref f_number_told)))
  (h_l_number_told : K.lookup f_number_told = some ⟨oc_number_told, od_number_told, .func (PySem.W.fnOf "number_told" "number_told" (defArgs (top 25)) (defBody (top 25)) (defScope (top 25)) .none kV_number_told dc_number_told pm_number_told an_number_told cd_number_told ct_number_told), sl_number_told⟩)
  (h_c_number_told : PySem.W.codeIn K cd_number_told "number_told" = true)
  (h_k_number_told : PySem.W.keepIn K (.ref f_number_told) = true)
  {f_numbers_told : Addr} {od_numbers_told an_numbers_told : Option Addr} {sl_numbers_told : Array (Option Value)} {oc_numbers_told kV_numbers_told dc_numbers_told pm_numbers_told cd_numbers_told ct_numbers_told : Value}
  (h_a_numbers_told : PySem.W.nsIn K mainGlobals "numbers_told" = some (some (.ref f_numbers_told)))
  (h_l_numbers_told : K.lookup f_numbers_told = some ⟨oc_numbers_told, od_numbers_told, .func (PySem.W.fnOf "numbers_told" "numbers_told" (defArgs (top 26)) (defBody (top 26)) (defScope (top 26)) .none kV_numbers_told dc_numbers_told pm_numbers_told an_numbers_told cd_numbers_told ct_numbers_told), sl_numbers_told⟩)
  (h_c_numbers_told : PySem.W.codeIn K cd_numbers_told "numbers_told" = true)
  (h_k_numbers_told : PySem.W.keepIn K (.ref f_numbers_told) = true)
  {f_read_cellar : Addr} {od_read_cellar an_read_cellar : Option Addr} {sl_read_cellar : Array (Option Value)} {oc_read_cellar kV_read_cellar dc_read_cellar pm_read_cellar cd_read_cellar ct_read_cellar : Value}
  (h_a_read_cellar : PySem.W.nsIn K mainGlobals "read_cellar" = some (some (.ref f_read_cellar)))
  (h_l_read_cellar : K.lookup f_read_cellar = some ⟨oc_read_cellar, od_read_cellar, .func (PySem.W.fnOf "read_cellar" "read_cellar" (defArgs (top 27)) (defBody (top 27)) (defScope (top 27)) .none kV_read_cellar dc_read_cellar pm_read_cellar an_read_cellar cd_read_cellar ct_read_cellar), sl_read_cellar⟩)
  (h_c_read_cellar : PySem.W.codeIn K cd_read_cellar "read_cellar" = true)
  (h_k_read_cellar : PySem.W.keepIn K (.ref f_read_cellar) = true)
  {f_stream : Addr} {od_stream an_stream : Option Addr} {sl_stream : Array (Option Value)} {oc_stream kV_stream dc_stream pm_stream cd_stream ct_stream : Value}
  (h_a_stream : PySem.W.nsIn K mainGlobals "_law_stream" = some (some (.ref f_stream)))
  (h_l_stream : K.lookup f_stream = some ⟨oc_stream, od_stream, .func (PySem.W.fnOf "_law_stream" "_law_stream" (defArgs (top 29)) (defBody (top 29)) (defScope (top 29)) .none kV_stream dc_stream pm_stream an_stream cd_stream ct_stream), sl_stream⟩)
  (h_c_stream : PySem.W.codeIn K cd_stream "_law_stream" = true)
  (h_k_stream : PySem.W.keepIn K (.ref f_stream) = true)
  {f_take : Addr} {od_take an_take : Option Addr} {sl_take : Array (Option Value)} {oc_take kV_take dc_take pm_take cd_take ct_take : Value}
  (h_a_take : PySem.W.nsIn K mainGlobals "_law_take" = some (some (.ref f_take)))
  (h_l_take : K.lookup f_take = some ⟨oc_take, od_take, .func (PySem.W.fnOf "_law_take" "_law_take" (defArgs (top 30)) (defBody (top 30)) (defScope (top 30)) .none kV_take dc_take pm_take an_take cd_take ct_take), sl_take⟩)
  (h_c_take : PySem.W.codeIn K cd_take "_law_take" = true)
  (h_k_take : PySem.W.keepIn K (.ref f_take) = true)
  {f_far : Addr} {od_far an_far : Option Addr} {sl_far : Array (Option Value)} {oc_far kV_far dc_far pm_far cd_far ct_far : Value}
  (h_a_far : PySem.W.nsIn K mainGlobals "_law_far" = some (some (.ref f_far)))
  (h_l_far : K.lookup f_far = some ⟨oc_far, od_far, .func (PySem.W.fnOf "_law_far" "_law_far" (defArgs (top 31)) (defBody (top 31)) (defScope (top 31)) .none kV_far dc_far pm_far an_far cd_far ct_far), sl_far⟩)
  (h_c_far : PySem.W.codeIn K cd_far "_law_far" = true)
  (h_k_far : PySem.W.keepIn K (.ref f_far) = true)
  {f_lcell : Addr} {od_lcell an_lcell : Option Addr} {sl_lcell : Array (Option Value)} {oc_lcell kV_lcell dc_lcell pm_lcell cd_lcell ct_lcell : Value}
  (h_a_lcell : PySem.W.nsIn K mainGlobals "_law_cellar" = some (some (.ref f_lcell)))
  (h_l_lcell : K.lookup f_lcell = some ⟨oc_lcell, od_lcell, .func (PySem.W.fnOf "_law_cellar" "_law_cellar" (defArgs (top 32)) (defBody (top 32)) (defScope (top 32)) .none kV_lcell dc_lcell pm_lcell an_lcell cd_lcell ct_lcell), sl_lcell⟩)
  (h_c_lcell : PySem.W.codeIn K cd_lcell "_law_cellar" = true)
  (h_k_lcell : PySem.W.keepIn K (.ref f_lcell) = true)
  {f_same : Addr} {od_same an_same : Option Addr} {sl_same : Array (Option Value)} {oc_same kV_same dc_same pm_same cd_same ct_same : Value}
  (h_a_same : PySem.W.nsIn K mainGlobals "_law_same" = some (some (.ref f_same)))
  (h_l_same : K.lookup f_same = some ⟨oc_same, od_same, .func (PySem.W.fnOf "_law_same" "_law_same" (defArgs (top 33)) (defBody (top 33)) (defScope (top 33)) .none kV_same dc_same pm_same an_same cd_same ct_same), sl_same⟩)
  (h_c_same : PySem.W.codeIn K cd_same "_law_same" = true)
  (h_k_same : PySem.W.keepIn K (.ref f_same) = true)
  {f_law_text : Addr} {od_law_text an_law_text : Option Addr} {sl_law_text : Array (Option Value)} {oc_law_text kV_law_text dc_law_text pm_law_text cd_law_text ct_law_text : Value}
  (h_a_law_text : PySem.W.nsIn K mainGlobals "_law_text" = some (some (.ref f_law_text)))
  (h_l_law_text : K.lookup f_law_text = some ⟨oc_law_text, od_law_text, .func (PySem.W.fnOf "_law_text" "_law_text" (defArgs (top 34)) (defBody (top 34)) (defScope (top 34)) .none kV_law_text dc_law_text pm_law_text an_law_text cd_law_text ct_law_text), sl_law_text⟩)
  (h_c_law_text : PySem.W.codeIn K cd_law_text "_law_text" = true)
  (h_k_law_text : PySem.W.keepIn K (.ref f_law_text) = true)
  {f_law : Addr} {od_law an_law : Option Addr} {sl_law : Array (Option Value)} {oc_law kV_law dc_law pm_law cd_law ct_law : Value}
  (h_a_law : PySem.W.nsIn K mainGlobals "law" = some (some (.ref f_law)))
  (h_l_law : K.lookup f_law = some ⟨oc_law, od_law, .func (PySem.W.fnOf "law" "law" (defArgs (top 35)) (defBody (top 35)) (defScope (top 35)) .none kV_law dc_law pm_law an_law cd_law ct_law), sl_law⟩)
  (h_c_law : PySem.W.codeIn K cd_law "law" = true)
  (h_k_law : PySem.W.keepIn K (.ref f_law) = true)
  (h_x : exOkB K (mkL [("LadleError", a_LadleError), ("NoText", a_NoText)]) tab asks = true)
  (he_NoText : PySem.W.excIn K a_NoText [.type "ValueError", .type "Exception", .type "BaseException", .type "object"] "ValueError.__new__" = true) : ∃ L, Txt K mg L := by
  have lk_LadleError : mkL [("LadleError", a_LadleError), ("NoText", a_NoText)] "LadleError" = a_LadleError := mkL_here
  have lk_NoText : mkL [("LadleError", a_LadleError), ("NoText", a_NoText)] "NoText" = a_NoText := mkL_skip (by decide) (mkL_here)
  exact ⟨mkL [("LadleError", a_LadleError), ("NoText", a_NoText)], {
    z_abs := PySem.W.mg_none_of X G hz_abs
    z_all := PySem.W.mg_none_of X G hz_all
    z_bool := PySem.W.mg_none_of X G hz_bool
    z_enumerate := PySem.W.mg_none_of X G hz_enumerate
    z_int := PySem.W.mg_none_of X G hz_int
    z_isinstance := PySem.W.mg_none_of X G hz_isinstance
    z_len := PySem.W.mg_none_of X G hz_len
    z_max := PySem.W.mg_none_of X G hz_max
    z_min := PySem.W.mg_none_of X G hz_min
    z_range := PySem.W.mg_none_of X G hz_range
    z_repr := PySem.W.mg_none_of X G hz_repr
    z_str := PySem.W.mg_none_of X G hz_str
    z_tuple := PySem.W.mg_none_of X G hz_tuple
    c_ROUND := cst_int (PySem.W.mg_of X G hc_ROUND)
    c_VESSELS := cst_int (PySem.W.mg_of X G hc_VESSELS)
    c_COMMON := cst_int (PySem.W.mg_of X G hc_COMMON)
    c_MOST := cst_loose XX (by simp)
    c_GREAT := cst_loose XX (by simp)
    c_LONGEST := cst_int (PySem.W.mg_of X G hc_LONGEST)
    c_FIGURES := cst_str (PySem.W.mg_of X G hc_FIGURES)
    d_is_whole := ⟨f_is_whole, _, PySem.W.mg_of X G h_a_is_whole, fun_mk h_l_is_whole h_c_is_whole h_k_is_whole⟩
    d_is_from := ⟨f_is_from, _, PySem.W.mg_of X G h_a_is_from, fun_mk h_l_is_from h_c_is_from h_k_is_from⟩
    d_is_row_of := ⟨f_is_row_of, _, PySem.W.mg_of X G h_a_is_row_of, fun_mk h_l_is_row_of h_c_is_row_of h_k_is_row_of⟩
    d_measure := ⟨f_measure, _, PySem.W.mg_of X G h_a_measure, fun_mk h_l_measure h_c_measure h_k_measure⟩
    d_multiple := ⟨f_multiple, _, PySem.W.mg_of X G h_a_multiple, fun_mk h_l_multiple h_c_multiple h_k_multiple⟩
    d_is_ring := ⟨f_is_ring, _, PySem.W.mg_of X G h_a_is_ring, fun_mk h_l_is_ring h_c_is_ring h_k_is_ring⟩
    d_ends := ⟨f_ends, _, PySem.W.mg_of X G h_a_ends, fun_mk h_l_ends h_c_ends h_k_ends⟩
    d_counts_fit := ⟨f_counts_fit, _, PySem.W.mg_of X G h_a_counts_fit, fun_mk h_l_counts_fit h_c_counts_fit h_k_counts_fit⟩
    d_ladles_fit := ⟨f_ladles_fit, _, PySem.W.mg_of X G h_a_ladles_fit, fun_mk h_l_ladles_fit h_c_ladles_fit h_k_ladles_fit⟩
    d_is_cellar := ⟨f_is_cellar, _, PySem.W.mg_of X G h_a_is_cellar, fun_mk h_l_is_cellar h_c_is_cellar h_k_is_cellar⟩
    d_numbers_text := ⟨f_numbers_text, _, PySem.W.mg_of X G h_a_numbers_text, fun_mk h_l_numbers_text h_c_numbers_text h_k_numbers_text⟩
    d_cellar_text := ⟨f_cellar_text, _, PySem.W.mg_of X G h_a_cellar_text, fun_mk h_l_cellar_text h_c_cellar_text h_k_cellar_text⟩
    d_number_told := ⟨f_number_told, _, PySem.W.mg_of X G h_a_number_told, fun_mk h_l_number_told h_c_number_told h_k_number_told⟩
    d_numbers_told := ⟨f_numbers_told, _, PySem.W.mg_of X G h_a_numbers_told, fun_mk h_l_numbers_told h_c_numbers_told h_k_numbers_told⟩
    d_read_cellar := ⟨f_read_cellar, _, PySem.W.mg_of X G h_a_read_cellar, fun_mk h_l_read_cellar h_c_read_cellar h_k_read_cellar⟩
    d_stream := ⟨f_stream, _, PySem.W.mg_of X G h_a_stream, fun_mk h_l_stream h_c_stream h_k_stream⟩
    d_take := ⟨f_take, _, PySem.W.mg_of X G h_a_take, fun_mk h_l_take h_c_take h_k_take⟩
    d_far := ⟨f_far, _, PySem.W.mg_of X G h_a_far, fun_mk h_l_far h_c_far h_k_far⟩
    d_lcell := ⟨f_lcell, _, PySem.W.mg_of X G h_a_lcell, fun_mk h_l_lcell h_c_lcell h_k_lcell⟩
    d_same := ⟨f_same, _, PySem.W.mg_of X G h_a_same, fun_mk h_l_same h_c_same h_k_same⟩
    d_law_text := ⟨f_law_text, _, PySem.W.mg_of X G h_a_law_text, fun_mk h_l_law_text h_c_law_text h_k_law_text⟩
    d_law := ⟨f_law, _, PySem.W.mg_of X G h_a_law, fun_mk h_l_law h_c_law h_k_law⟩
    x := exOkB_ok h_x
    g_NoText := by rw [lk_NoText]; exact PySem.W.mg_of X G h_NoText
    e_NoText := ⟨by rw [lk_NoText]; exact PySem.W.mg_of X G h_NoText, _, _, _, _, PySem.F.excBase_ValueError, by rw [lk_NoText]; exact he_NoText⟩ }⟩
theorem fin {P : Program} {w : PySem.World} {K : PySem.W.Frag} {mg : Str → Option Value} (h : ∃ L, Txt K mg L) : ∃ L, ∀ base : Heap, K.In base → base.Ns mainGlobals mg → Cal P w K L mg base 10 "law" 1 c_law := by
  obtain ⟨L, T⟩ := h
  exact ⟨L, fun base _ _ => ok_law T⟩
end K88
set_option Elab.async false
set_option linter.all false
set_option maxRecDepth 100000
set_option autoImplicit false
namespace K88
open PySem PySem.Spec L2 DL TL SH
theorem head_snoc (ring : Bool) (s : List Int) (x : Int) : headT ring (s ++ [x]) = headT ring s ++ sp ++ numS x.toNat := by
  apply ext_tl
  have e : tl (numS x.toNat) = numL x.toNat := tl_num _
  rw [tl_append, tl_append, head_tl, head_tl, sp_tl, e, List.map_append, List.map_append]
  have key : ∀ (ps : List (List Nat)) (p q : List Nat), joinL [32] (p :: (ps ++ [q])) = joinL [32] (p :: ps) ++ [32] ++ q := by
    intro ps
    induction ps with
    | nil => intro p q; simp [joinL]
    | cons p2 ps ih =>
      intro p q
      have := ih p2 q
      simp only [List.cons_append, joinL] at this ⊢
      rw [this]
      simp
  exact key _ _ _
theorem head_nil (ring : Bool) : headT ring [] = shS ring := by
  apply ext_tl
  rw [head_tl]
  rfl
theorem txtI_snoc {s : List Int} (h : s ≠ []) (x : Int) : txtI (s ++ [x]) = txtI s ++ sp ++ numS x.toNat := by
  unfold txtI
  rw [List.map_append]
  exact text_snoc _ _ fun z => h (List.map_eq_nil_iff.mp z)
theorem str_int {x : Int} (h : 0 ≤ x ∧ x ≤ 1000000000000) (st : Sto) : strD st [.int x] = some (.str (numS x.toNat)) := by
  obtain ⟨n, rfl⟩ := Int.eq_ofNat_of_zero_le h.1
  have := str_num (n := n) (by omega) st
  rw [Int.toNat_natCast]
  exact this
theorem m_law_text {ring : Bool} {s l : List Int} (G : Good ring s l) (st : Sto) : c_law_text [cellD ring s l] st = .val (.str (cellT ring s l)) st := by
  rw [e_law_text]
  have n2 := G.n2
  have hsp : PySem.Str.ofString " " = sp := rfl
  obtain ⟨r2, st2, e1, pre, x2, hpe, rfl, hst⟩ := loop_gen D.int (g := nameG 2) (b := asgS (bin addD (bin addD (var 1) (con (.str (PySem.Str.ofString " ")))) (callV strD (consA (var 2) nilA))) (nameG 1))
    (fun xs rr st' => ∃ (pre : List Int) (x2 : Option D), pre ++ xs = s ∧ rr = [some (cellD ring s l), some (.str (headT ring pre)), x2, none] ∧ st' = st)
    (by
      rintro x xs rr st' ⟨pre, x2, hp, rfl, rfl⟩
      have hx : 0 ≤ x ∧ x ≤ 1000000000000 := G.s0 x (by rw [← hp]; simp)
      have e := str_int hx st'
      have hl := head_len ring (s := pre) fun y hy => G.s0 y (by rw [← hp]; simp [hy])
      have hpl : pre.length ≤ s.length := by rw [← hp]; simp
      have l1 := (num_small (n := x.toNat) (by omega)).2
      have l2 := numS_len x.toNat
      have b1 : (headT ring pre).length + sp.length ≤ 1000000 := by rw [sp_len]; omega
      have b2 : (headT ring pre ++ sp).length + (numS x.toNat).length ≤ 1000000 := by rw [Str.length_append, sp_len]; omega
      refine ⟨_, _, [some (cellD ring s l), some (.str (headT ring (pre ++ [x]))), some (.int x), none], st', rfl, .inl ?_, pre ++ [x], _, by simp [hp], rfl, rfl⟩
      rw [head_snoc]
      simp [hsp, e, b1, b2])
    s [some (cellD ring s l), some (.str (headT ring [])), none, none] st ⟨[], none, rfl, rfl, rfl⟩
  have hpre : pre = s := by simpa using hpe
  rw [hpre, head_nil, hst] at e1
  have hl := head_len ring G.s0
  obtain ⟨r3, st3, e2, x3, rfl, hst3⟩ := loop_rng (g := nameG 3) (b := asgS (bin addD (bin addD (bin addD (var 1) (bin mulD (con (.str (PySem.Str.ofString ","))) (callV intX (consA (bin eqD (var 3) (con (.int 0))) nilA)))) (con (.str (PySem.Str.ofString " ")))) (callV strD (consA (bin ixD (bin ixD (var 0) (con (.int 2))) (var 3)) nilA))) (nameG 1)) l.length
    (fun k rr st' => ∃ x3, rr = [some (cellD ring s l), some (.str (if k = 0 then headT ring s else headT ring s ++ cm ++ txtI (l.take k))), x2, x3] ∧ st' = st)
    (by
      rintro k rr st' hk ⟨x3, rfl, rfl⟩
      obtain ⟨x, hx⟩ : ∃ x, l[k]? = some x := ⟨l[k], by simp [hk]⟩
      have hx0 := G.l0 x (List.mem_of_getElem? hx)
      have e := str_int hx0 st'
      have i2 : ixD st' (cellD ring s l) (.int 2) = some (.tup (l.map .int)) := by simp [cellD]
      have ik : ixD st' (.tup (l.map .int)) (.int k) = some (.int x) := atI_map hx
      have l1 := (num_small (n := x.toNat) (by omega)).2
      have l2 := numS_len x.toNat
      have htk : l.take (k + 1) = l.take k ++ [x] := by
        rw [List.take_succ, hx]; rfl
      have hcomma : PySem.Str.ofString "," ++ sp = cm := by decide +kernel
      have lc1 : (PySem.Str.ofString ",").length = 1 := by decide +kernel
      have lt := txtI_len (s := l.take k) fun y hy => G.l0 y (List.mem_of_mem_take hy)
      have ltk : (l.take k).length ≤ 12 := by rw [List.length_take]; omega
      refine ⟨_, _, [some (cellD ring s l), some (.str (headT ring s ++ cm ++ txtI (l.take (k + 1)))), x2, some (.int k)], st', rfl, .inl ?_, _, by rw [if_neg (by omega)], rfl⟩
      by_cases c : k = 0
      · subst c
        have t1 := times_1 st' (PySem.Str.ofString ",") (by rw [lc1]; omega)
        have en : txtI (l.take (0 + 1)) = numS x.toNat := by
          rw [htk]
          show textOf [x.toNat] = _
          exact text_one _
        have b1 : (headT ring s).length + (PySem.Str.ofString ",").length ≤ 1000000 := by rw [lc1]; omega
        have b2 : (headT ring s ++ PySem.Str.ofString ",").length + sp.length ≤ 1000000 := by rw [Str.length_append, lc1, sp_len]; omega
        have b3 : (headT ring s ++ PySem.Str.ofString "," ++ sp).length + (numS x.toNat).length ≤ 1000000 := by rw [Str.length_append, Str.length_append, lc1, sp_len]; omega
        have fin : headT ring s ++ PySem.Str.ofString "," ++ sp ++ numS x.toNat = headT ring s ++ cm ++ numS x.toNat := by
          rw [← hcomma]
          apply ext_tl
          simp [tl_append]
        have ik0 : ixD st' (.tup (l.map .int)) (.int 0) = some (.int x) := ik
        rw [if_pos rfl, en, ← fin]
        generalize cellD ring s l = C at *
        generalize (l.map D.int) = M at *
        simp [i2, ik0, e, t1, hsp, b1, b2, b3]
      · have c' : ((k : Int) == 0) = false := by simpa using c
        have t0 := times_0 st' (PySem.Str.ofString ",")
        have hne : l.take k ≠ [] := by
          intro z
          have := congrArg List.length z
          rw [List.length_take, List.length_nil] at this
          omega
        have le : Str.empty.length = 0 := rfl
        have ee : headT ring s ++ cm ++ txtI (l.take k) ++ Str.empty = headT ring s ++ cm ++ txtI (l.take k) := by
          apply ext_tl
          rw [tl_append]
          exact List.append_nil _
        have fin : headT ring s ++ cm ++ txtI (l.take (k + 1)) = headT ring s ++ cm ++ txtI (l.take k) ++ sp ++ numS x.toNat := by
          rw [htk, txtI_snoc hne]
          apply ext_tl
          simp [tl_append]
        have lh : (headT ring s ++ cm ++ txtI (l.take k)).length ≤ 1000 := by rw [Str.length_append, Str.length_append, cm_len]; omega
        have lnx := l2
        have lnx2 := l1
        rw [if_neg c, fin]
        generalize headT ring s ++ cm ++ txtI (l.take k) = T at *
        have b1 : T.length + Str.empty.length ≤ 1000000 := by rw [le]; omega
        have b2 : T.length + sp.length ≤ 1000000 := by rw [sp_len]; omega
        have b3 : (T ++ sp).length + (numS x.toNat).length ≤ 1000000 := by rw [Str.length_append, sp_len]; omega
        generalize cellD ring s l = C at *
        generalize (l.map D.int) = M at *
        simp [i2, ik, e, c', t0, hsp, b1, ee, b2, b3])
    [some (cellD ring s l), some (.str (headT ring s)), x2, none] st ⟨none, rfl, rfl⟩
  have i0 : ixD st (cellD ring s l) (.int 0) = some (.str (shS ring)) := by simp [cellD]
  have i1 : ixD st (cellD ring s l) (.int 1) = some (.tup (s.map .int)) := by simp [cellD]
  have i2 : ixD st (cellD ring s l) (.int 2) = some (.tup (l.map .int)) := by simp [cellD]
  have hr : rng1 (l.length : Int) = some (rangeD 0 l.length) := rng1_nat' (by omega)
  have ll : lenD st [.tup (l.map .int)] = some (.int l.length) := by simp
  have fin : (if l.length = 0 then headT ring s else headT ring s ++ cm ++ txtI (l.take l.length)) = cellT ring s l := by
    unfold cellT
    by_cases c : l = []
    · subst c; rw [if_pos rfl]; simp [join_one]
    · have : l.length ≠ 0 := fun z => c (List.eq_nil_of_length_eq_zero z)
      rw [if_neg this, if_neg c, join_two, List.take_length]
  rw [fin, hst3] at e2
  simp only [b_law_text]
  generalize cellD ring s l = C at *
  generalize (l.map D.int) = M at *
  generalize (s.map D.int) = S at *
  simp [i0, i1, e1, i2, ll, hr, e2]
theorem okT_cell {ring : Bool} {s l : List Int} (G : Good ring s l) : okT (cellD ring s l) = true ∧ dpt (cellD ring s l) = 2 := by
  obtain ⟨a, b⟩ := okT_ints s
  obtain ⟨c, d⟩ := okT_ints l
  have n2 := G.n2
  have h1 : s.length ≤ 1000 := by omega
  have h2 : l.length ≤ 1000 := by omega
  unfold cellD
  simp only [okT, okTs, dpt, dpts, List.length_map, a, b, c, d, h1, h2]
  exact ⟨by simp, by simp⟩
structure Q where
  ring : Bool
  s : List Int
  l : List Int
def Q.ok (q : Q) : Prop := Good q.ring q.s q.l
def Q.d (q : Q) : D := cellD q.ring q.s q.l
def Q.t (q : Q) : D := .str (cellT q.ring q.s q.l)
theorem q_rep (q : Q) (h : q.ok) : rok q.d = true ∧ rwt q.d ≤ 2000 ∧ D.ht q.d = some 2 := by
  have n2 := Good.n2 h
  obtain ⟨a, b⟩ := ints_rwt (ns := q.s) fun x hx => by have := Good.s0 h x hx; omega
  obtain ⟨c, d⟩ := ints_rwt (ns := q.l) fun x hx => by have := Good.l0 h x hx; omega
  have w : (reprText (shS q.ring)).length ≤ 10 := by cases q.ring <;> decide +kernel
  unfold Q.d cellD
  refine ⟨?_, ?_, ?_⟩
  · simp only [rok, roks, a, c, Bool.and_true]
  · simp only [rwt, rwts]
    omega
  · simp [D.ht, D.hts, hts_ints]
theorem qs_rep : ∀ (qs : List Q), (∀ q ∈ qs, q.ok) → roks (qs.map Q.d) = true ∧ rwts (qs.map Q.d) ≤ 2002 * qs.length ∧ ∃ n, D.hts (qs.map Q.d) = some n ∧ n ≤ 2
  | [], _ => ⟨rfl, Nat.le_refl _, 0, rfl, by decide⟩
  | q :: qs, h => by
    obtain ⟨a, b, n, c, d⟩ := qs_rep qs fun x hx => h x (List.mem_cons_of_mem _ hx)
    obtain ⟨e, f, g⟩ := q_rep q (h q List.mem_cons_self)
    refine ⟨by simp only [List.map_cons, roks, a, e, Bool.and_true], by simp only [List.map_cons, rwts, List.length_cons]; omega, max 2 n, by simp only [List.map_cons, D.hts, g, c, Option.bind_some, Option.map_some], by omega⟩
def askS : DS := (ifS (orT (notT (asT (callE (arity 2 (c_same 8)) (consA (callE (arity 1 c_cellar_text) (consA (bin ixD (var 2) (var 7)) nilA)) (consA (bin ixD (var 4) (var 7)) nilA))))) (notT (asT (callE (arity 2 (c_same 8)) (consA (callE (arity 1 c_read_cellar) (consA (bin ixD (var 4) (var 7)) nilA)) (consA (bin ixD (var 2) (var 7)) nilA)))))) (retS (con (.bl false))) nextS)
theorem plain (ns : List Int) (hl : ns.length ≤ 63) : (c_law [.scr ns] []).sat (fun d _ => d = .bl true) fun _ _ => False := by
  obtain ⟨st, e0, d0⟩ := m_stream ns hl 88
  rw [show ((88 : Nat) : Int) = 88 from rfl] at e0
  have hr6 : rng1 6 = some (rangeD 0 6) := rng1_nat' (n := 6) (by decide)
  have hr2 : rng1 2 = some (rangeD 0 2) := rng1_nat' (n := 2) (by decide)
  obtain ⟨qs, st1, e1, ql, qok, d1⟩ := lc_drawnG (fun k : Nat => D.int (k : Int)) Q.d (i := 3) (c := 100) (N := 100000) (fe := callE (arity 1 c_lcell) (consA (var 1) nilA)) (r0 := [some (.scr ns), some (.ref 0), none, none, none, none, none, none]) (fun n st => Strm n [] st) (fun _ q => q.ok) (List.range 6) [] 88 st
    (by
      intro x _ n st hst hN
      obtain ⟨ring, s, l, st', e, G, d⟩ := m_lcell hst (by omega) (by simp)
      exact ⟨⟨ring, s, l⟩, st', by simp [e, Q.d], G, d⟩) d0 (by simp)
  rw [← rng_eq] at e1
  have ok : ∀ q ∈ qs, q.ok := by
    intro q hq
    obtain ⟨k, hk⟩ := List.mem_iff_getElem?.mp hq
    have hk' := (List.getElem?_eq_some_iff.mp hk).1
    rw [ql] at hk'
    exact qok k k q (by rw [List.getElem?_range (by simpa using hk')]) hk
  have wf : WF st1 := by
    have := d1.under (tl := []) (tl2 := []) (by simp)
    obtain ⟨a, b, c, d, rfl, _⟩ := d1.ex
    exact this
  have ql6 : qs.length = 6 := by simpa using ql
  have e2 := lc_gen1 Q.d (i := 5) (fe := callE (arity 1 c_law_text) (consA (var 5) nilA)) (r0 := [some (.scr ns), some (.ref 0), some (.lst (qs.map Q.d)), none, none, none, none, none]) (st := st1) Q.t qs [] (fun q hq => by
    have := m_law_text (ok q hq) st1
    simp [Q.d, this, Q.t])
  obtain ⟨ro, rw', n, hh, hn⟩ := qs_rep qs ok
  have hrep := repr_ok (st := st1) (d := .lst (qs.map Q.d)) (n := n + 1) rfl (by show D.ht (.lst (qs.map Q.d)) = _; simp only [D.ht, hh, Option.map_some]) (by omega) (by simp only [rok, ro]) (by simp only [rwt]; omega)
  obtain ⟨z, hz⟩ : ∃ z, (D.pd (.lst (qs.map Q.d))).shown = z := ⟨_, rfl⟩
  rw [hz] at hrep
  have ask : ∀ (k : Nat) (x3 x5 : Option D), k < 6 → askS [some (.scr ns), some (.ref 0), some (.lst (qs.map Q.d)), x3, some (.lst (qs.map Q.t)), x5, some (.str z), some (.int k)] st1 = .nx [some (.scr ns), some (.ref 0), some (.lst (qs.map Q.d)), x3, some (.lst (qs.map Q.t)), x5, some (.str z), some (.int k)] st1 := by
    intro k x3 x5 hk
    obtain ⟨q, hq⟩ : ∃ q, qs[k]? = some q := ⟨qs[k], by simp⟩
    have hqo := ok q (List.mem_of_getElem? hq)
    have a1 : atI (qs.map Q.d) (k : Int) = some q.d := atI_nat (by rw [List.getElem?_map, hq]; rfl)
    have a2 : atI (qs.map Q.t) (k : Int) = some q.t := atI_nat (by rw [List.getElem?_map, hq]; rfl)
    have t1 := m_cellar_text hqo st1 wf
    have t2 := m_read_cellar hqo st1
    have s1 := same_str (cellT q.ring q.s q.l) st1
    have s2 := m_sameT 8 q.d st1 (okT_cell hqo).1 (by have := (okT_cell hqo).2; unfold Q.d; omega)
    simp only [Q.d, Q.t] at a1 a2 s2
    generalize cellD q.ring q.s q.l = C at *
    generalize cellT q.ring q.s q.l = T at *
    generalize (qs.map Q.d) = B at *
    generalize (qs.map Q.t) = B2 at *
    simp [askS, a1, a2, t1, t2, s1, s2]
  obtain ⟨r3, st3, e3, x3, x5, x7, rfl, rfl⟩ := loop_rng (g := nameG 3) (b := forS (range1I (consA (con (.int 6)) nilA)) (nameG 7) askS) 2 (fun k r s => ∃ (x3 x5 x7 : Option D), r = [some (.scr ns), some (.ref 0), some (.lst (qs.map Q.d)), x3, some (.lst (qs.map Q.t)), x5, some (.str z), x7] ∧ s = st1)
    (by
      rintro k r s hk ⟨x3, x5, x7, rfl, rfl⟩
      obtain ⟨r4, s4, e4, y7, rfl, rfl⟩ := loop_rng (g := nameG 7) (b := askS) 6 (fun j r s' => ∃ y7, r = [some (.scr ns), some (.ref 0), some (.lst (qs.map Q.d)), some (.int k), some (.lst (qs.map Q.t)), x5, some (.str z), y7] ∧ s' = s)
        (by
          rintro j r s' hj ⟨y7, rfl, rfl⟩
          exact ⟨_, _, _, _, rfl, .inl (ask j _ _ hj), _, rfl, rfl⟩)
        [some (.scr ns), some (.ref 0), some (.lst (qs.map Q.d)), some (.int k), some (.lst (qs.map Q.t)), x5, some (.str z), x7] s ⟨_, rfl, rfl⟩
      exact ⟨_, _, [some (.scr ns), some (.ref 0), some (.lst (qs.map Q.d)), some (.int k), some (.lst (qs.map Q.t)), x5, some (.str z), y7], s4, rfl, .inl (by simp [hr6, e4]), _, _, _, rfl, rfl⟩)
    [some (.scr ns), some (.ref 0), some (.lst (qs.map Q.d)), none, some (.lst (qs.map Q.t)), none, some (.str z), none] st1 ⟨_, _, _, rfl, rfl⟩
  have G7 : Good false [7] [] := ⟨by simp, by simp, by decide, fun k w a b h => by simp at h, fun z => Bool.noConfusion z⟩
  have r7 := m_read_cellar G7 st3
  have c7 : cellT false [7] [] = PySem.Str.ofString "row 7" := by decide +kernel
  rw [c7] at r7
  have s7 := m_sameT 8 (cellD false [7] []) st3 (okT_cell G7).1 (by have := (okT_cell G7).2; omega)
  have k7 : D.tup [.str (PySem.Str.ofString "row"), .tup [.int 7], .tup []] = cellD false [7] [] := rfl
  have hl6 : qs.length ≤ 1000000 := by omega
  have len6 : (rangeD 0 6).length = 6 := rfl
  have hb : b_law = (seqS (asgS (callE (arity 2 c_stream) (consA (var 0) (consA (con (.int 88)) nilA))) (nameG 1))
  (seqS (asgS (lcE (range1I (consA (con (.int 6)) nilA)) (slot1 3) [3] yesT (callE (arity 1 c_lcell) (consA (var 1) nilA))) (nameG 2))
  (seqS (asgS (lcE (itemsI (var 2)) (slot1 5) [5] yesT (callE (arity 1 c_law_text) (consA (var 5) nilA))) (nameG 4))
  (seqS (asgS (callV reprD (consA (var 2) nilA)) (nameG 6))
  (seqS (forS (range1I (consA (con (.int 2)) nilA)) (nameG 3) (forS (range1I (consA (con (.int 6)) nilA)) (nameG 7) askS))
  (retS (andV (bin eqD (callV reprD (consA (var 2) nilA)) (var 6)) (callE (arity 2 (c_same 8)) (consA (callE (arity 1 c_read_cellar) (consA (con (.str (PySem.Str.ofString "row 7"))) nilA)) (consA (tupE (consA (con (.str (PySem.Str.ofString "row"))) (consA (tupE (consA (con (.int 7)) nilA)) (consA (tupE nilA) nilA)))) nilA)))))))))) := rfl
  have fin : c_law [.scr ns] [] = .val (.bl true) st3 := by
    rw [e_law, hb]
    have hQ : (qs.map Q.d).length ≤ 1000000 := by rw [List.length_map]; exact hl6
    generalize (qs.map Q.d) = B at *
    generalize (qs.map Q.t) = B2 at *
    generalize cellD false [7] [] = C at *
    simp [e0, hr6, len6, e1, hQ, e2, hrep, hr2, e3, r7, k7, s7]
  rw [fin]
  rfl
end K88
open PySem PySem.W PyProof.Rows in
set_option maxRecDepth 100000 in
set_option maxHeartbeats 0 in
theorem PySem.Challenge.cw_ladlerow_k88_cellar_texts_holds : PySem.Challenge.rw_ladlerow_k88_cellar_texts.Holds := by
  w_on; o_law; k_head; (case hw => w_witness2)
  k_fill
  refine DL.end_walk (l := PySem.Challenge.rw_ladlerow_k88_cellar_texts) (n := 63) (k := 10) (den := K88.c_law) rfl (by decide) rfl ⟨rfl, by decide, by decide⟩ (fun w h Y => PySem.W.kIn_of Y) ?F K88.plain
  case F =>
    intro w mg h KX G XP
    refine' K88.fin (K88.mk_txt KX G XP ?h_LadleError ?h_NoText ?hz_abs ?hz_all ?hz_bool ?hz_enumerate ?hz_int ?hz_isinstance ?hz_len ?hz_max ?hz_min ?hz_range ?hz_repr ?hz_str ?hz_tuple ?hc_ROUND ?hc_VESSELS ?hc_COMMON ?hc_LONGEST ?hc_FIGURES ?h_a_is_whole ?h_l_is_whole ?h_c_is_whole ?h_k_is_whole ?h_a_is_from ?h_l_is_from ?h_c_is_from ?h_k_is_from ?h_a_is_row_of ?h_l_is_row_of ?h_c_is_row_of ?h_k_is_row_of ?h_a_measure ?h_l_measure ?h_c_measure ?h_k_measure ?h_a_multiple ?h_l_multiple ?h_c_multiple ?h_k_multiple ?h_a_is_ring ?h_l_is_ring ?h_c_is_ring ?h_k_is_ring ?h_a_ends ?h_l_ends ?h_c_ends ?h_k_ends ?h_a_counts_fit ?h_l_counts_fit ?h_c_counts_fit ?h_k_counts_fit ?h_a_ladles_fit ?h_l_ladles_fit ?h_c_ladles_fit ?h_k_ladles_fit ?h_a_is_cellar ?h_l_is_cellar ?h_c_is_cellar ?h_k_is_cellar ?h_a_numbers_text ?h_l_numbers_text ?h_c_numbers_text ?h_k_numbers_text ?h_a_cellar_text ?h_l_cellar_text ?h_c_cellar_text ?h_k_cellar_text ?h_a_number_told ?h_l_number_told ?h_c_number_told ?h_k_number_told ?h_a_numbers_told ?h_l_numbers_told ?h_c_numbers_told ?h_k_numbers_told ?h_a_read_cellar ?h_l_read_cellar ?h_c_read_cellar ?h_k_read_cellar ?h_a_stream ?h_l_stream ?h_c_stream ?h_k_stream ?h_a_take ?h_l_take ?h_c_take ?h_k_take ?h_a_far ?h_l_far ?h_c_far ?h_k_far ?h_a_lcell ?h_l_lcell ?h_c_lcell ?h_k_lcell ?h_a_same ?h_l_same ?h_c_same ?h_k_same ?h_a_law_text ?h_l_law_text ?h_c_law_text ?h_k_law_text ?h_a_law ?h_l_law ?h_c_law ?h_k_law ?h_x ?he_NoText)
    (case h_LadleError => k_is)
    (case h_NoText => k_is)
    (case hz_abs => k_is)
    (case hz_all => k_is)
    (case hz_bool => k_is)
    (case hz_enumerate => k_is)
    (case hz_int => k_is)
    (case hz_isinstance => k_is)
    (case hz_len => k_is)
    (case hz_max => k_is)
    (case hz_min => k_is)
    (case hz_range => k_is)
    (case hz_repr => k_is)
    (case hz_str => k_is)
    (case hz_tuple => k_is)
    (case hc_ROUND => k_is)
    (case hc_VESSELS => k_is)
    (case hc_COMMON => k_is)
    (case hc_LONGEST => k_is)
    (case hc_FIGURES => k_is)
    (case h_a_is_whole => k_is)
    (case h_l_is_whole => k_is)
    (case h_c_is_whole => k_is)
    (case h_k_is_whole => k_is)
    (case h_a_is_from => k_is)
    (case h_l_is_from => k_is)
    (case h_c_is_from => k_is)
    (case h_k_is_from => k_is)
    (case h_a_is_row_of => k_is)
    (case h_l_is_row_of => k_is)
    (case h_c_is_row_of => k_is)
    (case h_k_is_row_of => k_is)
    (case h_a_measure => k_is)
    (case h_l_measure => k_is)
    (case h_c_measure => k_is)
    (case h_k_measure => k_is)
    (case h_a_multiple => k_is)
    (case h_l_multiple => k_is)
    (case h_c_multiple => k_is)
    (case h_k_multiple => k_is)
    (case h_a_is_ring => k_is)
    (case h_l_is_ring => k_is)
    (case h_c_is_ring => k_is)
    (case h_k_is_ring => k_is)
    (case h_a_ends => k_is)
    (case h_l_ends => k_is)
    (case h_c_ends => k_is)
    (case h_k_ends => k_is)
    (case h_a_counts_fit => k_is)
    (case h_l_counts_fit => k_is)
    (case h_c_counts_fit => k_is)
    (case h_k_counts_fit => k_is)
    (case h_a_ladles_fit => k_is)
    (case h_l_ladles_fit => k_is)
    (case h_c_ladles_fit => k_is)
    (case h_k_ladles_fit => k_is)
    (case h_a_is_cellar => k_is)
    (case h_l_is_cellar => k_is)
    (case h_c_is_cellar => k_is)
    (case h_k_is_cellar => k_is)
    (case h_a_numbers_text => k_is)
    (case h_l_numbers_text => k_is)
    (case h_c_numbers_text => k_is)
    (case h_k_numbers_text => k_is)
    (case h_a_cellar_text => k_is)
    (case h_l_cellar_text => k_is)
    (case h_c_cellar_text => k_is)
    (case h_k_cellar_text => k_is)
    (case h_a_number_told => k_is)
    (case h_l_number_told => k_is)
    (case h_c_number_told => k_is)
    (case h_k_number_told => k_is)
    (case h_a_numbers_told => k_is)
    (case h_l_numbers_told => k_is)
    (case h_c_numbers_told => k_is)
    (case h_k_numbers_told => k_is)
    (case h_a_read_cellar => k_is)
    (case h_l_read_cellar => k_is)
    (case h_c_read_cellar => k_is)
    (case h_k_read_cellar => k_is)
    (case h_a_stream => k_is)
    (case h_l_stream => k_is)
    (case h_c_stream => k_is)
    (case h_k_stream => k_is)
    (case h_a_take => k_is)
    (case h_l_take => k_is)
    (case h_c_take => k_is)
    (case h_k_take => k_is)
    (case h_a_far => k_is)
    (case h_l_far => k_is)
    (case h_c_far => k_is)
    (case h_k_far => k_is)
    (case h_a_lcell => k_is)
    (case h_l_lcell => k_is)
    (case h_c_lcell => k_is)
    (case h_k_lcell => k_is)
    (case h_a_same => k_is)
    (case h_l_same => k_is)
    (case h_c_same => k_is)
    (case h_k_same => k_is)
    (case h_a_law_text => k_is)
    (case h_l_law_text => k_is)
    (case h_c_law_text => k_is)
    (case h_k_law_text => k_is)
    (case h_a_law => k_is)
    (case h_l_law => k_is)
    (case h_c_law => k_is)
    (case h_k_law => k_is)
    (case h_x => kernel_rfl)
    (case he_NoText => kernel_rfl)
