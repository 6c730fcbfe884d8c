import PyProof.Rows.All
import Wide.All
import OpenK.AllK
import Wide.FinOn
import HandS.ForMost
import HandS.ForExc
import HandS.IsInst
import HandS.CallSlots
import HandS.Deep
import HandS.TupAny
import HandS.Style
import HandS.Flow
import KE.SortData
import HandS.WordsDict
import HandS.SetKeys
import HandS.TryOnly
import HandS.Zip
import HandS.Nested
import HandS.EndTab
import KE.KUnpackStar
import HandS.More
import PySem.Challenge.RW_clearyard_k43_whole_promises_there_and_b
import KE.KNestM
import HandS.EndOwn
import HandS.HeadWalk
set_option Elab.async false
set_option linter.all false
set_option autoImplicit false
set_option maxRecDepth 100000
set_option maxHeartbeats 2000000
/-! DL1: a layer of pure data over HandS: values as deep data D, a world S of things with identity, readings as predicate transformers over both. -/
namespace DL
open PySem PySem.Spec L2

/-! ### data -/
inductive D where
  | non | bl (b : Bool) | int (i : Int) | str (x : Str) | ty (n : String)
  | tup (xs : List D) | lst (xs : List D)
  | dct (kvs : List (Key × D)) | dtt (kvs : List (List Key × D))
  | ref (a : Addr)
  | scr (ns : List Int)

/-- a tuple that stands still: laid by the run, or of the written part -/
def TpAt (K : PySem.W.Frag) (F : Hp) (a : Addr) (xs : List V) : Prop :=
  F a = some (.tup xs) ∨ ∃ (o : Obj) (its : Array Value) (n : Nat), K.lookup a = some o ∧ o.cls = .type "tuple" ∧ o.data = .seq its n ∧ its.size ≤ sizeLine ∧ Vals xs its.toList
theorem TpAt.sq {K : PySem.W.Frag} {F H : Hp} {a : Addr} {xs : List V} (sm : Same F H) (h : TpAt K F a xs) : SqT K H a xs := by
  rcases h with h | h
  · exact .inl (.inl (sm _ _ h))
  · exact .inr h
mutual
inductive Den (K : PySem.W.Frag) (F : Hp) : V → D → Prop
  | non : Den K F .non .non
  | bl (b : Bool) : Den K F (.bl b) (.bl b)
  | int (i : Int) : Den K F (.int i) (.int i)
  | str (x : Str) : Den K F (.str x) (.str x)
  | ty (n : String) : Den K F (.ty n) (.ty n)
  | ref (a : Addr) : Den K F (.ref a) (.ref a)
  | tup {a : Addr} {vs : List V} {ds : List D} : TpAt K F a vs → Dens K F vs ds → ds.length ≤ sizeLine → Den K F (.ref a) (.tup ds)
  | lst {a : Addr} {vs : List V} {ds : List D} : F a = some (.lst vs) → Dens K F vs ds → ds.length ≤ sizeLine → Den K F (.ref a) (.lst ds)
  | scr {a : Addr} {ns : List Int} : SqL K F a (ns.map V.int) → ns.length ≤ sizeLine → Den K F (.ref a) (.scr ns)
  | dct {a : Addr} {o : Obj} {kvs : List (Key × V)} {kds : List (Key × D)} : F a = some (.frz o (.dK kvs)) → DenK K F kvs kds → kds.length ≤ sizeLine → (kds.map (·.1)).Nodup → Den K F (.ref a) (.dct kds)
  | dtt {a : Addr} {o : Obj} {kvs : List (List Key × V)} {kds : List (List Key × D)} : F a = some (.frz o (.dT kvs)) → DenT K F kvs kds → kds.length ≤ sizeLine → (kds.map (·.1)).Nodup → Den K F (.ref a) (.dtt kds)
inductive Dens (K : PySem.W.Frag) (F : Hp) : List V → List D → Prop
  | nil : Dens K F [] []
  | cons {v : V} {d : D} {vs : List V} {ds : List D} : Den K F v d → Dens K F vs ds → Dens K F (v :: vs) (d :: ds)
inductive DenK (K : PySem.W.Frag) (F : Hp) : List (Key × V) → List (Key × D) → Prop
  | nil : DenK K F [] []
  | cons {k : Key} {v : V} {d : D} {vs : List (Key × V)} {ds : List (Key × D)} : Den K F v d → DenK K F vs ds → DenK K F ((k, v) :: vs) ((k, d) :: ds)
inductive DenT (K : PySem.W.Frag) (F : Hp) : List (List Key × V) → List (List Key × D) → Prop
  | nil : DenT K F [] []
  | cons {k : List Key} {v : V} {d : D} {vs : List (List Key × V)} {ds : List (List Key × D)} : Den K F v d → DenT K F vs ds → DenT K F ((k, v) :: vs) ((k, d) :: ds)
end

theorem Same.tq {K : PySem.W.Frag} {H H' : Hp} {a : Addr} {xs : List V} (e : Same H H') (h : TpAt K H a xs) : TpAt K H' a xs := by
  rcases h with h | h
  · exact .inl (e _ _ h)
  · exact .inr h
mutual
theorem Den.mono {K : PySem.W.Frag} {F F' : Hp} (e : Same F F') : ∀ {v : V} {d : D}, Den K F v d → Den K F' v d
  | _, _, .non => .non
  | _, _, .bl b => .bl b
  | _, _, .int i => .int i
  | _, _, .str x => .str x
  | _, _, .ty x => .ty x
  | _, _, .ref a => .ref a
  | _, _, .tup h t l => .tup (Same.tq e h) (Dens.mono e t) l
  | _, _, .lst h t l => .lst (e _ _ h) (Dens.mono e t) l
  | _, _, .scr h l => .scr (e.seq h) l
  | _, _, .dct h t l n => .dct (e _ _ h) (DenK.mono e t) l n
  | _, _, .dtt h t l n => .dtt (e _ _ h) (DenT.mono e t) l n
theorem Dens.mono {K : PySem.W.Frag} {F F' : Hp} (e : Same F F') : ∀ {v : List V} {d : List D}, Dens K F v d → Dens K F' v d
  | _, _, .nil => .nil
  | _, _, .cons h t => .cons (Den.mono e h) (Dens.mono e t)
theorem DenK.mono {K : PySem.W.Frag} {F F' : Hp} (e : Same F F') : ∀ {v : List (Key × V)} {d : List (Key × D)}, DenK K F v d → DenK K F' v d
  | _, _, .nil => .nil
  | _, _, .cons h t => .cons (Den.mono e h) (DenK.mono e t)
theorem DenT.mono {K : PySem.W.Frag} {F F' : Hp} (e : Same F F') : ∀ {v : List (List Key × V)} {d : List (List Key × D)}, DenT K F v d → DenT K F' v d
  | _, _, .nil => .nil
  | _, _, .cons h t => .cons (Den.mono e h) (DenT.mono e t)
end
theorem DenK.keys {K : PySem.W.Frag} {F : Hp} : ∀ {vs : List (Key × V)} {ds : List (Key × D)}, DenK K F vs ds → vs.map (·.1) = ds.map (·.1)
  | _, _, .nil => rfl
  | _, _, .cons _ t => by rw [List.map_cons, List.map_cons, DenK.keys t]
theorem DenT.keys {K : PySem.W.Frag} {F : Hp} : ∀ {vs : List (List Key × V)} {ds : List (List Key × D)}, DenT K F vs ds → vs.map (·.1) = ds.map (·.1)
  | _, _, .nil => rfl
  | _, _, .cons _ t => by rw [List.map_cons, List.map_cons, DenT.keys t]
theorem Dens.length {K : PySem.W.Frag} {F : Hp} : ∀ {vs : List V} {ds : List D}, Dens K F vs ds → vs.length = ds.length
  | _, _, .nil => rfl
  | _, _, .cons _ t => by rw [List.length_cons, List.length_cons, Dens.length t]
theorem Dens.get {K : PySem.W.Frag} {F : Hp} : ∀ {vs : List V} {ds : List D} {i : Nat} {d : D}, Dens K F vs ds → ds[i]? = some d → ∃ v, vs[i]? = some v ∧ Den K F v d
  | _, _, i, d, .nil, e => by simp at e
  | _, _, 0, d, .cons h t, e => by
    simp at e
    subst e
    exact ⟨_, rfl, h⟩
  | _, _, i + 1, d, .cons h t, e => by
    obtain ⟨v, h1, h2⟩ := Dens.get (i := i) (d := d) t (by simpa using e)
    exact ⟨v, by simpa using h1, h2⟩
theorem Dens.getV {K : PySem.W.Frag} {F : Hp} : ∀ {vs : List V} {ds : List D} {i : Nat} {v : V}, Dens K F vs ds → vs[i]? = some v → ∃ d, ds[i]? = some d ∧ Den K F v d
  | _, _, i, d, .nil, e => by simp at e
  | _, _, 0, d, .cons h t, e => by
    simp at e
    subst e
    exact ⟨_, rfl, h⟩
  | _, _, i + 1, v, .cons h t, e => by
    obtain ⟨d, h1, h2⟩ := Dens.getV (i := i) (v := v) t (by simpa using e)
    exact ⟨d, by simpa using h1, h2⟩
theorem Dens.append {K : PySem.W.Frag} {F : Hp} : ∀ {vs us : List V} {ds es : List D}, Dens K F vs ds → Dens K F us es → Dens K F (vs ++ us) (ds ++ es)
  | _, _, _, _, .nil, h => h
  | _, _, _, _, .cons h t, h' => .cons h (Dens.append t h')
theorem Dens.one {K : PySem.W.Frag} {F : Hp} {v : V} {d : D} (h : Den K F v d) : Dens K F [v] [d] := .cons h .nil
theorem Dens.drop {K : PySem.W.Frag} {F : Hp} : ∀ {vs : List V} {ds : List D} (n : Nat), Dens K F vs ds → Dens K F (vs.drop n) (ds.drop n)
  | _, _, 0, h => h
  | _, _, _ + 1, .nil => .nil
  | _, _, n + 1, .cons _ t => by simpa using Dens.drop n t
theorem Dens.take {K : PySem.W.Frag} {F : Hp} : ∀ {vs : List V} {ds : List D} (n : Nat), Dens K F vs ds → Dens K F (vs.take n) (ds.take n)
  | _, _, 0, _ => .nil
  | _, _, _ + 1, .nil => .nil
  | _, _, n + 1, .cons h t => by simpa using Dens.cons h (Dens.take n t)
theorem Dens.set {K : PySem.W.Frag} {F : Hp} {v : V} {d : D} (h : Den K F v d) : ∀ {vs : List V} {ds : List D} (n : Nat), Dens K F vs ds → Dens K F (vs.set n v) (ds.set n d)
  | _, _, 0, .nil => .nil
  | _, _, _ + 1, .nil => .nil
  | _, _, 0, .cons _ t => .cons h t
  | _, _, n + 1, .cons g t => .cons g (Dens.set h n t)
theorem Dens.reverse {K : PySem.W.Frag} {F : Hp} : ∀ {vs : List V} {ds : List D}, Dens K F vs ds → Dens K F vs.reverse ds.reverse
  | _, _, .nil => .nil
  | _, _, .cons h t => by rw [List.reverse_cons, List.reverse_cons]; exact Dens.append (Dens.reverse t) (.one h)

/-! ### things with identity -/
inductive IO where
  | lst (ds : List D) | dct (kvs : List (Key × D)) | ins (C dx : Addr) (fs : List (Str × D)) | raw (o : HO)
abbrev IS := Addr → Option IO
def updS (S : IS) (a : Addr) (o : IO) : IS := fun b => if b = a then some o else S b
def delS (S : IS) (a : Addr) : IS := fun b => if b = a then none else S b
theorem updS_same {S : IS} {a : Addr} {o : IO} : updS S a o a = some o := by unfold updS; rw [if_pos rfl]
theorem updS_ne {S : IS} {a b : Addr} {o : IO} (h : b ≠ a) : updS S a o b = S b := by unfold updS; rw [if_neg h]
theorem updS_updS {S : IS} {a : Addr} {o u : IO} : updS (updS S a o) a u = updS S a u := by
  funext b; unfold updS; split <;> rfl
theorem delS_same {S : IS} {a : Addr} : delS S a a = none := by unfold delS; rw [if_pos rfl]
theorem delS_ne {S : IS} {a b : Addr} (h : b ≠ a) : delS S a b = S b := by unfold delS; rw [if_neg h]
theorem delS_updS {S : IS} {a : Addr} {o : IO} (h : S a = none) : delS (updS S a o) a = S := by
  funext b
  by_cases e : b = a
  · subst e; rw [delS_same, h]
  · rw [delS_ne e, updS_ne e]
theorem updS_comm {S : IS} {a b : Addr} {o u : IO} (h : a ≠ b) : updS (updS S a o) b u = updS (updS S b u) a o := by
  funext c
  unfold updS
  by_cases h1 : c = b
  · subst h1; simp [Ne.symm h]
  · simp [h1]
inductive DenF (K : PySem.W.Frag) (F : Hp) : List (Str × V) → List (Str × D) → Prop
  | nil : DenF K F [] []
  | cons {k : Str} {v : V} {d : D} {vs : List (Str × V)} {ds : List (Str × D)} : Den K F v d → DenF K F vs ds → DenF K F ((k, v) :: vs) ((k, d) :: ds)
theorem DenF.mono {K : PySem.W.Frag} {F F' : Hp} (e : Same F F') : ∀ {v : List (Str × V)} {d : List (Str × D)}, DenF K F v d → DenF K F' v d
  | _, _, .nil => .nil
  | _, _, .cons h t => .cons (Den.mono e h) (DenF.mono e t)
def IOk (K : PySem.W.Frag) (F : Hp) : IO → HO → Prop
  | .lst ds, .lst vs => Dens K F vs ds ∧ ds.length ≤ sizeLine
  | .dct ds, .dK kvs => DenK K F kvs ds ∧ (ds.map (·.1)).Nodup ∧ ds.length ≤ sizeLine
  | .ins C dx fs, .ins C' dx' gs => C = C' ∧ dx = dx' ∧ DenF K F gs fs
  | .raw o, o' => o = o'
  | _, _ => False
theorem IOk.mono {K : PySem.W.Frag} {F F' : Hp} (e : Same F F') : ∀ {i : IO} {o : HO}, IOk K F i o → IOk K F' i o := by
  intro i o h
  cases i <;> cases o <;> first | exact h | exact ⟨Dens.mono e h.1, h.2⟩ | exact ⟨DenK.mono e h.1, h.2⟩ | exact ⟨h.1, h.2.1, DenF.mono e h.2.2⟩ | exact h.elim

/-! ### the state as data -/
abbrev Rho := List (Option D)
/-- no table of code objects -/
def NT (o : HO) : Prop := ∀ ps : Array Value, o ≠ .tbl ps
structure Rel0 (K : PySem.W.Frag) (H : Hp) (S : IS) (F : Hp) : Prop where
  fz : ∀ b o, F b = some o → H b = some o ∧ S b = none
  io : ∀ b i, S b = some i → ∃ o, H b = some o ∧ IOk K F i o
  nt : ∀ b o, F b = some o → NT o
structure Rel (K : PySem.W.Frag) (σ : St) (H : Hp) (ρ : Rho) (S : IS) (F : Hp) : Prop where
  r0 : Rel0 K H S F
  len : σ.length = ρ.length
  sl : ∀ (i : Nat) (d : D), ρ[i]? = some (some d) → ∃ v, σ[i]? = some (some v) ∧ Den K F v d
/-- from one state to a later one -/
structure After (K : PySem.W.Frag) (H : Hp) (S : IS) (F : Hp) (H' : Hp) (S' : IS) (F' : Hp) : Prop where
  r0 : Rel0 K H' S' F'
  same : Same F F'
  keep : ∀ b o, H b = some o → NT o → S b = none → H' b = some o ∧ S' b = none ∧ F' b = F b

section
variable {K : PySem.W.Frag} {H H1 H2 : Hp} {S S1 S2 : IS} {F F1 F2 : Hp} {σ : St} {ρ : Rho}
theorem After.refl (r : Rel0 K H S F) : After K H S F H S F := ⟨r, Same.refl F, fun b o h1 _ h2 => ⟨h1, h2, rfl⟩⟩
theorem After.trans (a : After K H S F H1 S1 F1) (b : After K H1 S1 F1 H2 S2 F2) : After K H S F H2 S2 F2 :=
  ⟨b.r0, a.same.trans b.same, fun c o h1 h0 h2 => by
    obtain ⟨x1, x2, x3⟩ := a.keep c o h1 h0 h2
    obtain ⟨y1, y2, y3⟩ := b.keep c o x1 h0 x2
    exact ⟨y1, y2, y3.trans x3⟩⟩
theorem Rel0.noS (r : Rel0 K H S F) {a : Addr} (h : H a = none) : S a = none := by
  cases e : S a with
  | none => rfl
  | some i =>
    obtain ⟨o, h1, _⟩ := r.io a i e
    rw [h] at h1; cases h1
theorem Rel0.noF (r : Rel0 K H S F) {a : Addr} (h : H a = none) : F a = none := by
  cases e : F a with
  | none => rfl
  | some i =>
    obtain ⟨h1, _⟩ := r.fz a i e
    rw [h] at h1; cases h1
theorem Rel0.same (r : Rel0 K H S F) : Same F H := fun b o e => (r.fz b o e).1
/-- a new frozen object -/
theorem Rel0.newF (r : Rel0 K H S F) {a : Addr} {o : HO} (h : H a = none) (no : NT o := by intro _ h; cases h) : After K H S F (upd H a o) S (upd F a o) := by
  have nS := r.noS h
  have nF := r.noF h
  have sm : Same F (upd F a o) := fun b u e => by rw [upd_ne (ne_of_none e nF)]; exact e
  refine ⟨⟨fun b u e => ?_, fun b i e => ?_, fun b u e => ?_⟩, sm, fun b u e1 e0 e2 => ?_⟩
  · by_cases hb : b = a
    · subst hb; rw [upd_same] at e ⊢; exact ⟨e, nS⟩
    · rw [upd_ne hb] at e ⊢; exact r.fz b u e
  · have hb : b ≠ a := fun z => by subst z; rw [nS] at e; cases e
    obtain ⟨u, h1, h2⟩ := r.io b i e
    exact ⟨u, by rw [upd_ne hb]; exact h1, h2.mono sm⟩
  · by_cases hb : b = a
    · subst hb; rw [upd_same] at e; cases e; exact no
    · rw [upd_ne hb] at e; exact r.nt b u e
  · have hb : b ≠ a := ne_of_none e1 h
    exact ⟨by rw [upd_ne hb]; exact e1, e2, upd_ne hb⟩
/-- a new object with identity -/
theorem Rel0.newS (r : Rel0 K H S F) {a : Addr} {o : HO} {i : IO} (h : H a = none) (hi : IOk K F i o) : After K H S F (upd H a o) (updS S a i) F := by
  have nF := r.noF h
  refine ⟨⟨fun b u e => ?_, fun b j e => ?_, r.nt⟩, Same.refl F, fun b u e1 e0 e2 => ?_⟩
  · have hb : b ≠ a := ne_of_none e nF
    rw [upd_ne hb, updS_ne hb]; exact r.fz b u e
  · by_cases hb : b = a
    · subst hb; rw [updS_same] at e; cases e; exact ⟨o, upd_same, hi⟩
    · rw [updS_ne hb] at e
      rw [upd_ne hb]; exact r.io b j e
  · have hb : b ≠ a := ne_of_none e1 h
    exact ⟨by rw [upd_ne hb]; exact e1, by rw [updS_ne hb]; exact e2, rfl⟩
/-- an object that is tracked by neither (a list that is being built) -/
theorem Rel0.newT (r : Rel0 K H S F) {a : Addr} {o : HO} (h : H a = none) : After K H S F (upd H a o) S F := by
  have nF := r.noF h
  have nS := r.noS h
  refine ⟨⟨fun b u e => ?_, fun b j e => ?_, r.nt⟩, Same.refl F, fun b u e1 e0 e2 => ?_⟩
  · rw [upd_ne (ne_of_none e nF)]; exact r.fz b u e
  · have hb : b ≠ a := fun z => by subst z; rw [nS] at e; cases e
    rw [upd_ne hb]; exact r.io b j e
  · have hb : b ≠ a := ne_of_none e1 h
    exact ⟨by rw [upd_ne hb]; exact e1, e2, rfl⟩
theorem Rel0.chgT (r : Rel0 K H S F) {a : Addr} {o : HO} (nF : F a = none) (nS : S a = none) : Rel0 K (upd H a o) S F := by
  refine ⟨fun b u e => ?_, fun b j e => ?_, r.nt⟩
  · rw [upd_ne (ne_of_none e nF)]; exact r.fz b u e
  · have hb : b ≠ a := fun z => by subst z; rw [nS] at e; cases e
    rw [upd_ne hb]; exact r.io b j e
/-- an object with identity is changed -/
theorem Rel0.chgS (r : Rel0 K H S F) {a : Addr} {o : HO} {i j : IO} (h : S a = some j) (hi : IOk K F i o) : After K H S F (upd H a o) (updS S a i) F := by
  refine ⟨⟨fun b u e => ?_, fun b j' e => ?_, r.nt⟩, Same.refl F, fun b u e1 e0 e2 => ?_⟩
  · have hb : b ≠ a := fun z => by subst z; rw [(r.fz b u e).2] at h; cases h
    rw [upd_ne hb, updS_ne hb]; exact r.fz b u e
  · by_cases hb : b = a
    · subst hb; rw [updS_same] at e; cases e; exact ⟨o, upd_same, hi⟩
    · rw [updS_ne hb] at e
      rw [upd_ne hb]; exact r.io b j' e
  · have hb : b ≠ a := fun z => by subst z; rw [e2] at h; cases h
    exact ⟨by rw [upd_ne hb]; exact e1, by rw [updS_ne hb]; exact e2, rfl⟩
/-- an object with identity is frozen -/
theorem Rel0.freeze (r : Rel0 K H S F) {a : Addr} {o : HO} {i : IO} (h : S a = some i) (ho : H a = some o) (no : NT o := by intro _ h; cases h) : After K H S F H (delS S a) (upd F a o) := by
  have nF : F a = none := by
    cases e : F a with
    | none => rfl
    | some u => rw [(r.fz a u e).2] at h; cases h
  have sm : Same F (upd F a o) := fun b u e => by rw [upd_ne (ne_of_none e nF)]; exact e
  refine ⟨⟨fun b u e => ?_, fun b j e => ?_, fun b u e => ?_⟩, sm, fun b u e1 e0 e2 => ?_⟩
  · by_cases hb : b = a
    · subst hb; rw [upd_same] at e; rw [← e]; exact ⟨ho, delS_same⟩
    · rw [upd_ne hb] at e
      rw [delS_ne hb]; exact r.fz b u e
  · by_cases hb : b = a
    · subst hb; rw [delS_same] at e; cases e
    · rw [delS_ne hb] at e
      obtain ⟨u, h1, h2⟩ := r.io b j e
      exact ⟨u, h1, h2.mono sm⟩
  · by_cases hb : b = a
    · subst hb; rw [upd_same] at e; cases e; exact no
    · rw [upd_ne hb] at e; exact r.nt b u e
  · have hb : b ≠ a := fun z => by subst z; rw [e2] at h; cases h
    exact ⟨e1, by rw [delS_ne hb]; exact e2, upd_ne hb⟩
/-- .. and locked as it stands -/
theorem Rel0.freezeL (r : Rel0 K H S F) {a : Addr} {o : HO} {ob : Obj} {i : IO} (h : S a = some i) : After K H S F (upd H a (.frz ob o)) (delS S a) (upd F a (.frz ob o)) := by
  have nF : F a = none := by
    cases e : F a with
    | none => rfl
    | some u => rw [(r.fz a u e).2] at h; cases h
  have sm : Same F (upd F a (.frz ob o)) := fun b u e => by rw [upd_ne (ne_of_none e nF)]; exact e
  refine ⟨⟨fun b u e => ?_, fun b j e => ?_, fun b u e => ?_⟩, sm, fun b u e1 e0 e2 => ?_⟩
  · by_cases hb : b = a
    · subst hb; rw [upd_same] at e ⊢; exact ⟨e, delS_same⟩
    · rw [upd_ne hb] at e ⊢
      rw [delS_ne hb]; exact r.fz b u e
  · by_cases hb : b = a
    · subst hb; rw [delS_same] at e; cases e
    · rw [delS_ne hb] at e
      obtain ⟨u, h1, h2⟩ := r.io b j e
      exact ⟨u, by rw [upd_ne hb]; exact h1, h2.mono sm⟩
  · by_cases hb : b = a
    · subst hb; rw [upd_same] at e; cases e; intro _ h; cases h
    · rw [upd_ne hb] at e; exact r.nt b u e
  · have hb : b ≠ a := fun z => by subst z; rw [e2] at h; cases h
    exact ⟨by rw [upd_ne hb]; exact e1, by rw [delS_ne hb]; exact e2, upd_ne hb⟩
theorem Rel.after (R : Rel K σ H ρ S F) (a : After K H S F H1 S1 F1) : Rel K σ H1 ρ S1 F1 :=
  ⟨a.r0, R.len, fun i d e => by
    obtain ⟨v, h1, h2⟩ := R.sl i d e
    exact ⟨v, h1, h2.mono a.same⟩⟩
theorem Rel.set (R : Rel K σ H ρ S F) {v : V} {d : D} (h : Den K F v d) (i : Nat) : Rel K (σ.set i (some v)) H (ρ.set i (some d)) S F := by
  refine ⟨R.r0, by simp [R.len], fun j e q => ?_⟩
  by_cases hj : j = i
  · subst hj
    by_cases hl : j < ρ.length
    · rw [List.getElem?_set_self hl] at q
      cases q
      exact ⟨v, by rw [List.getElem?_set_self (by rw [R.len]; exact hl)], h⟩
    · rw [List.getElem?_eq_none (by simpa using hl)] at q; cases q
  · rw [List.getElem?_set_ne (Ne.symm hj)] at q ⊢
    exact R.sl j e q
end

/-! ### what is wanted -/
abbrev XA := Option (List (Str × D))
abbrev DK := D → IS → Prop
abbrev XKd := Value → XA → IS → Prop
abbrev DE := Rho → IS → DK → XKd → Prop
abbrev DTt := Rho → IS → (Bool → IS → Prop) → XKd → Prop
abbrev DAt := Rho → IS → (List D → IS → Prop) → XKd → Prop
structure DEnds where
  nx : Rho → IS → Prop
  rt : DK
  xc : Value → XA → Rho → IS → Prop
  bk : Rho → IS → Prop := fun _ _ => False
  ct : Rho → IS → Prop := fun _ _ => False
abbrev DSt := DEnds → Rho → IS → Prop
def XAt (K : PySem.W.Frag) (F : Hp) : Option Addr → XA → Prop
  | none, none => True
  | some a, some fs => ∃ gs, F a = some (.xd gs) ∧ DenF K F gs fs
  | _, _ => False
def KOk (K : PySem.W.Frag) (H : Hp) (S : IS) (F : Hp) (Qd : DK) (Q : VK) : Prop := ∀ v H' S' F' d, After K H S F H' S' F' → Den K F' v d → Qd d S' → Q v H'
def BOk (K : PySem.W.Frag) (H : Hp) (S : IS) (F : Hp) (Qd : Bool → IS → Prop) (Q : Bool → Hp → Prop) : Prop := ∀ b H' S' F', After K H S F H' S' F' → Qd b S' → Q b H'
def AOk (K : PySem.W.Frag) (H : Hp) (S : IS) (F : Hp) (Qd : List D → IS → Prop) (Q : List V → Hp → Prop) : Prop := ∀ vs H' S' F' ds, After K H S F H' S' F' → Dens K F' vs ds → Qd ds S' → Q vs H'
def WOk (K : PySem.W.Frag) (W : WX) (σ : St) (H : Hp) (S : IS) (F : Hp) (Ex : XKd) : Prop := ∀ cls dd xa H' S' F', After K H S F H' S' F' → XAt K F' dd xa → Ex cls xa S' → W cls dd σ H'
structure EOk (K : PySem.W.Frag) (W : WX) (H : Hp) (S : IS) (F : Hp) (E : DEnds) (D : Ends) : Prop where
  nx : ∀ σ' H' ρ' S' F', After K H S F H' S' F' → Rel K σ' H' ρ' S' F' → E.nx ρ' S' → D.nx σ' H'
  bk : ∀ σ' H' ρ' S' F', After K H S F H' S' F' → Rel K σ' H' ρ' S' F' → E.bk ρ' S' → D.bk σ' H'
  ct : ∀ σ' H' ρ' S' F', After K H S F H' S' F' → Rel K σ' H' ρ' S' F' → E.ct ρ' S' → D.ct σ' H'
  rt : KOk K H S F E.rt D.rt
  xc : ∀ cls dd xa σ' H' ρ' S' F', After K H S F H' S' F' → Rel K σ' H' ρ' S' F' → XAt K F' dd xa → E.xc cls xa ρ' S' → W cls dd σ' H'
section
variable {K : PySem.W.Frag} {W : WX} {H H1 : Hp} {S S1 : IS} {F F1 : Hp} {σ : St} {ρ : Rho}
theorem KOk.after {Qd : DK} {Q : VK} (k : KOk K H S F Qd Q) (a : After K H S F H1 S1 F1) : KOk K H1 S1 F1 Qd Q := fun v H' S' F' d b => k v H' S' F' d (a.trans b)
theorem BOk.after {Qd : Bool → IS → Prop} {Q : Bool → Hp → Prop} (k : BOk K H S F Qd Q) (a : After K H S F H1 S1 F1) : BOk K H1 S1 F1 Qd Q := fun v H' S' F' b => k v H' S' F' (a.trans b)
theorem AOk.after {Qd : List D → IS → Prop} {Q : List V → Hp → Prop} (k : AOk K H S F Qd Q) (a : After K H S F H1 S1 F1) : AOk K H1 S1 F1 Qd Q := fun v H' S' F' d b => k v H' S' F' d (a.trans b)
theorem WOk.after {Ex : XKd} (k : WOk K W σ H S F Ex) (a : After K H S F H1 S1 F1) : WOk K W σ H1 S1 F1 Ex := fun c d x H' S' F' b => k c d x H' S' F' (a.trans b)
theorem EOk.after {E : DEnds} {D : Ends} (k : EOk K W H S F E D) (a : After K H S F H1 S1 F1) : EOk K W H1 S1 F1 E D :=
  ⟨fun σ' H' ρ' S' F' b => k.nx σ' H' ρ' S' F' (a.trans b), fun σ' H' ρ' S' F' b => k.bk σ' H' ρ' S' F' (a.trans b), fun σ' H' ρ' S' F' b => k.ct σ' H' ρ' S' F' (a.trans b), k.rt.after a, fun c d x σ' H' ρ' S' F' b => k.xc c d x σ' H' ρ' S' F' (a.trans b)⟩
/-- what an expression of the statement wants of exceptions -/
def exOf (E : DEnds) (ρ : Rho) : XKd := fun cls xa S' => E.xc cls xa ρ S'
theorem EOk.wok {E : DEnds} {D : Ends} (k : EOk K W H S F E D) (R : Rel K σ H ρ S F) : WOk K W σ H S F (exOf E ρ) := fun c d x H' S' F' a xa q => k.xc c d x σ H' ρ S' F' a (R.after a) xa q
end

/-! ### the judgements: HandS's, at the readings that data give -/
def cTE (K : PySem.W.Frag) (W : WX) (t : DE) : TE := fun σ H Q => ∃ ρ S F Qd Ex, Rel K σ H ρ S F ∧ t ρ S Qd Ex ∧ KOk K H S F Qd Q ∧ WOk K W σ H S F Ex
def cTT (K : PySem.W.Frag) (W : WX) (t : DTt) : TT := fun σ H Q => ∃ ρ S F Qd Ex, Rel K σ H ρ S F ∧ t ρ S Qd Ex ∧ BOk K H S F Qd Q ∧ WOk K W σ H S F Ex
def cTA (K : PySem.W.Frag) (W : WX) (t : DAt) : TA := fun σ H Q => ∃ ρ S F Qd Ex, Rel K σ H ρ S F ∧ t ρ S Qd Ex ∧ AOk K H S F Qd Q ∧ WOk K W σ H S F Ex
def cTS (K : PySem.W.Frag) (W : WX) (t : DSt) : TS := fun D σ H => ∃ ρ S F E, Rel K σ H ρ S F ∧ t E ρ S ∧ EOk K W H S F E D
abbrev DX (X : Cx) (W : WX) (e : Expr) (t : DE) : Prop := PE X e (cTE X.K W t)
abbrev DT (X : Cx) (W : WX) (e : Expr) (t : DTt) : Prop := PT X e (cTT X.K W t)
abbrev DW (X : Cx) (W : WX) (e : Expr) (t : DTt) : Prop := PW X e (cTT X.K W t)
abbrev DA (X : Cx) (W : WX) (es : List Expr) (t : DAt) : Prop := PA X es (cTA X.K W t)
abbrev DS (X : Cx) (W : WX) (st : Stmt) (t : DSt) : Prop := PS X st (cTS X.K W t)
abbrev DSs (X : Cx) (W : WX) (sts : List Stmt) (t : DSt) : Prop := PSs X sts (cTS X.K W t)

section
variable {X : Cx} {W : WX}
theorem _root_.L2.PE.weaken {e : Expr} {t u : TE} (h : PE X e t) (w : ∀ σ H Q, u σ H Q → t σ H Q) : PE X e u := ⟨fun pins s σ H Q I q => h.run pins s σ H Q I (w σ H Q q)⟩
theorem _root_.L2.PT.weaken {e : Expr} {t u : TT} (h : PT X e t) (w : ∀ σ H Q, u σ H Q → t σ H Q) : PT X e u := ⟨fun pins s σ H Q I q => h.run pins s σ H Q I (w σ H Q q)⟩
theorem _root_.L2.PW.weaken {e : Expr} {t u : TT} (h : PW X e t) (w : ∀ σ H Q, u σ H Q → t σ H Q) : PW X e u := ⟨fun wh pins s σ H Q I q => h.run wh pins s σ H Q I (w σ H Q q)⟩
theorem _root_.L2.PA.weaken {es : List Expr} {t u : TA} (h : PA X es t) (w : ∀ σ H Q, u σ H Q → t σ H Q) : PA X es u := ⟨fun pos pins s σ H Q I q => h.run pos pins s σ H Q I (w σ H Q q)⟩
theorem _root_.L2.PS.weaken {st : Stmt} {t u : TS} (h : PS X st t) (w : ∀ D σ H, u D σ H → t D σ H) : PS X st u := ⟨fun pins s σ H D I q => h.run pins s σ H D I (w D σ H q)⟩
theorem _root_.L2.PSs.weaken {st : List Stmt} {t u : TS} (h : PSs X st t) (w : ∀ D σ H, u D σ H → t D σ H) : PSs X st u := ⟨fun pins s σ H D I q => h.run pins s σ H D I (w D σ H q)⟩
end
end DL

set_option Elab.async false
set_option linter.all false
set_option autoImplicit false
set_option maxRecDepth 100000
set_option maxHeartbeats 2000000
/-! DL2: the rules of expressions, tests, statements over data. -/
namespace DL
open PySem PySem.Spec L2

section
variable {X : Cx} {W : WX} {a b c e o : Expr} {es rest : List Expr} {ta tb tc : DE} {pos : Pos}
/-! ### names, constants -/
def dVar (i : Nat) : DE := fun ρ S Q _ => ∃ d, ρ[i]? = some (some d) ∧ Q d S
def dC (d : D) : DE := fun _ S Q _ => Q d S
theorem dx_var {i : Nat} {x : Str} (h : PE X (.Name x pos) (tVar i)) : DX X W (.Name x pos) (dVar i) :=
  h.weaken fun σ H Q q => by
    obtain ⟨ρ, S, F, Qd, Ex, R, ⟨d, e1, q1⟩, kq, _⟩ := q
    obtain ⟨v, e2, dn⟩ := R.sl i d e1
    exact ⟨v, e2, kq v H S F d (.refl R.r0) dn q1⟩
theorem dx_c {v : V} {d : D} (h : PE X e (tC v)) (hd : ∀ F : Hp, Den X.K F v d) : DX X W e (dC d) :=
  h.weaken fun σ H Q q => by
    obtain ⟨ρ, S, F, Qd, Ex, R, q1, kq, _⟩ := q
    exact kq v H S F d (.refl R.r0) (hd F) q1
theorem dx_int {i : Int} {j} : DX X W (.Constant (.int i) j pos) (dC (.int i)) := dx_c pe_int fun _ => .int i
theorem dx_bl {b : Bool} {j} : DX X W (.Constant (.bool b) j pos) (dC (.bl b)) := dx_c pe_bl fun _ => .bl b
theorem dx_non {j} : DX X W (.Constant .none j pos) (dC .non) := dx_c pe_non fun _ => .non
theorem dx_str {x : Str} {j} : DX X W (.Constant (.str x) j pos) (dC (.str x)) := dx_c pe_str fun _ => .str x
theorem dx_ty {x : Str} {n : String} (hg : Gl X x) (hm : X.mg x = none) (hv : bootBuiltins x = some (.type n)) (hn : x ≠ "__name__" := by decide) (hd : (x == ("__debug__" : Str)) = false := by decide) : DX X W (.Name x pos) (dC (.ty n)) :=
  dx_c (pe_bltn (v := .ty n) hg hm hv rfl hn hd) fun _ => .ty n

/-! ### operators by values -/
abbrev RD := D → D → IS → DK → Prop
def Lift2 (K : PySem.W.Frag) (r : R2) (rd : RD) : Prop := ∀ H S F x y dx dy Qd Q, Rel0 K H S F → Den K F x dx → Den K F y dy → rd dx dy S Qd → KOk K H S F Qd Q → r x y H Q
structure Op2 (X : Cx) (f : Value → Value → Sem Value) (rd : RD) : Prop where
  ex : ∃ r, OpR X f r ∧ Lift2 X.K r rd
def dOp (rd : RD) (ta tb : DE) : DE := fun ρ S Q E => ta ρ S (fun x S1 => tb ρ S1 (fun y S2 => rd x y S2 Q) E) E
/-- two readings in a row, then values -/
theorem two {K : PySem.W.Frag} {ta tb : DE} {rd : RD} {r : R2} (l : Lift2 K r rd) {σ : St} {H : Hp} {Q : VK} (q : cTE K W (dOp rd ta tb) σ H Q) : tOp r (cTE K W ta) (cTE K W tb) σ H Q := by
  obtain ⟨ρ, S, F, Qd, Ex, R, q1, kq, kw⟩ := q
  refine ⟨ρ, S, F, _, Ex, R, q1, fun v H1 S1 F1 d A1 dn q2 => ?_, kw⟩
  refine ⟨ρ, S1, F1, _, Ex, R.after A1, q2, fun u H2 S2 F2 d2 A2 dn2 q3 => ?_, kw.after A1⟩
  exact l H2 S2 F2 v u d d2 Qd Q A2.r0 (dn.mono A2.same) dn2 q3 (kq.after (A1.trans A2))
theorem dx_op {op : Operator} {rd : RD} (ho : Op2 X (binaryOp op) rd) (ha : DX X W a ta) (hb : DX X W b tb) : DX X W (.BinOp a op b pos) (dOp rd ta tb) := by
  obtain ⟨r, h1, h2⟩ := ho.ex
  exact (pe_op h1 ha hb).weaken fun σ H Q q => two h2 q
theorem dx_cmp {op : CmpOp} {rd : RD} (ho : Op2 X (compareOp op) rd) (ha : DX X W a ta) (hb : DX X W b tb) (hm : behindInMarks op b = false) : DX X W (.Compare a [op] [b] pos) (dOp rd ta tb) := by
  obtain ⟨r, h1, h2⟩ := ho.ex
  exact (pe_cmpR h1 ha hb hm).weaken fun σ H Q q => two h2 q
/-- a value that is a truth, as a test -/
def dTst (t : DE) : DTt := fun ρ S Q E => t ρ S (fun x S1 => ∃ k, x = .bl k ∧ Q k S1) E
theorem blv {K : PySem.W.Frag} {F : Hp} {v : V} {k : Bool} (h : Den K F v (.bl k)) : v = .bl k := by cases h; rfl
theorem cTT_of {K : PySem.W.Frag} {t : DE} {te : TE} {σ : St} {H : Hp} {Q : Bool → Hp → Prop} (w : ∀ Q', cTE K W t σ H Q' → te σ H Q') (q : cTT K W (dTst t) σ H Q) : te σ H fun x H1 => ∃ k, x = .bl k ∧ Q k H1 := by
  obtain ⟨ρ, S, F, Qd, Ex, R, q1, kq, kw⟩ := q
  refine w _ ⟨ρ, S, F, _, Ex, R, q1, fun v H1 S1 F1 d A1 dn q2 => ?_, kw⟩
  obtain ⟨k, e, q3⟩ := q2
  subst e
  exact ⟨k, blv dn, kq k H1 S1 F1 A1 q3⟩
theorem dt_cmp {op : CmpOp} {rd : RD} (ho : Op2 X (compareOp op) rd) (ha : DX X W a ta) (hb : DX X W b tb) (hm : behindInMarks op b = false) : DT X W (.Compare a [op] [b] pos) (dTst (dOp rd ta tb)) := by
  obtain ⟨r, h1, h2⟩ := ho.ex
  exact (pt_cmpR h1 ha hb hm).weaken fun σ H Q q => cTT_of (te := tOp r (cTE X.K W ta) (cTE X.K W tb)) (fun Q' q' => two h2 q') q
/-- a < b < c -/
def dChain (r1 r2 : RD) (ta tb tc : DE) : DE := fun ρ S Q E => ta ρ S (fun x S1 => tb ρ S1 (fun y S2 => r1 x y S2 fun z S3 => ∃ k, z = .bl k ∧ if k = true then tc ρ S3 (fun w S4 => r2 y w S4 Q) E else Q (.bl false) S3) E) E
theorem chain {K : PySem.W.Frag} {ta tb tc : DE} {rd rd' : RD} {r r' : R2} (l : Lift2 K r rd) (l' : Lift2 K r' rd') {σ : St} {H : Hp} {Q : VK} (q : cTE K W (dChain rd rd' ta tb tc) σ H Q) : tChain r r' (cTE K W ta) (cTE K W tb) (cTE K W tc) σ H Q := by
  obtain ⟨ρ, S, F, Qd, Ex, R, q1, kq, kw⟩ := q
  refine ⟨ρ, S, F, _, Ex, R, q1, fun v H1 S1 F1 d A1 dn q2 => ?_, kw⟩
  refine ⟨ρ, S1, F1, _, Ex, R.after A1, q2, fun u H2 S2 F2 d2 A2 dn2 q3 => ?_, kw.after A1⟩
  refine l H2 S2 F2 v u d d2 _ _ A2.r0 (dn.mono A2.same) dn2 q3 fun z H3 S3 F3 dz A3 dn3 q4 => ?_
  obtain ⟨k, e, q4⟩ := q4
  subst e
  refine ⟨k, blv dn3, ?_⟩
  have A13 := A1.trans (A2.trans A3)
  cases k with
  | true =>
    rw [if_pos rfl] at q4 ⊢
    refine ⟨ρ, S3, F3, _, Ex, R.after A13, q4, fun w H4 S4 F4 d4 A4 dn4 q5 => ?_, kw.after A13⟩
    exact l' H4 S4 F4 u w d2 d4 Qd Q A4.r0 (dn2.mono (A3.trans A4).same) dn4 q5 (kq.after (A13.trans A4))
  | false =>
    rw [if_neg Bool.false_ne_true] at q4 ⊢
    exact kq _ H3 S3 F3 _ A13 (.bl false) q4
theorem dx_chain {op op' : CmpOp} {rd rd' : RD} (ho : Op2 X (compareOp op) rd) (ho' : Op2 X (compareOp op') rd') (ha : DX X W a ta) (hb : DX X W b tb) (hc : DX X W c tc)
    (hx : ∀ {r r' : R2}, OpR X (compareOp op) r → OpR X (compareOp op') r' → PE X a (cTE X.K W ta) → PE X b (cTE X.K W tb) → PE X c (cTE X.K W tc) → PE X (.Compare a [op, op'] [b, c] pos) (tChain r r' (cTE X.K W ta) (cTE X.K W tb) (cTE X.K W tc))) : DX X W (.Compare a [op, op'] [b, c] pos) (dChain rd rd' ta tb tc) := by
  obtain ⟨r, h1, h2⟩ := ho.ex
  obtain ⟨r', h1', h2'⟩ := ho'.ex
  exact (hx h1 h1' ha hb hc).weaken fun σ H Q q => chain h2 h2' q
/-! ### tests -/
theorem dt_val {t : DE} (h : DX X W e t) (he : ∀ whole, isTrue e X.env whole = (do let v ← whole; standAt e.pos; holding [v] (truthy v)) := by intro _; rfl) : DT X W e (dTst t) :=
  (pt_val h he).weaken fun σ H Q q => cTT_of (fun _ z => z) q
def dAnd (t u : DTt) : DTt := fun ρ S Q E => t ρ S (fun k S1 => if k = true then u ρ S1 Q E else Q false S1) E
def dOr (t u : DTt) : DTt := fun ρ S Q E => t ρ S (fun k S1 => if k = true then Q true S1 else u ρ S1 Q E) E
def dNot (t : DTt) : DTt := fun ρ S Q E => t ρ S (fun k S1 => Q (!k) S1) E
variable {tA tB tD : DTt}
theorem dw_and1 (ha : DT X W a tA) : DW X W (.BoolOp .And [a] pos) tA := pw_and1 ha
theorem dw_or1 (ha : DT X W a tA) : DW X W (.BoolOp .Or [a] pos) tA := pw_or1 ha
theorem dw_and (ha : DT X W a tA) (hb : DW X W (.BoolOp .And (b :: rest) pos) tB) : DW X W (.BoolOp .And (a :: b :: rest) pos) (dAnd tA tB) :=
  (pw_and ha hb).weaken fun σ H Q q => by
    obtain ⟨ρ, S, F, Qd, Ex, R, q1, kq, kw⟩ := q
    refine ⟨ρ, S, F, _, Ex, R, q1, fun k H1 S1 F1 A1 q2 => ?_, kw⟩
    cases k with
    | true => exact ⟨ρ, S1, F1, _, Ex, R.after A1, q2, kq.after A1, kw.after A1⟩
    | false => exact kq _ H1 S1 F1 A1 q2
theorem dw_or (ha : DT X W a tA) (hb : DW X W (.BoolOp .Or (b :: rest) pos) tB) : DW X W (.BoolOp .Or (a :: b :: rest) pos) (dOr tA tB) :=
  (pw_or ha hb).weaken fun σ H Q q => by
    obtain ⟨ρ, S, F, Qd, Ex, R, q1, kq, kw⟩ := q
    refine ⟨ρ, S, F, _, Ex, R, q1, fun k H1 S1 F1 A1 q2 => ?_, kw⟩
    cases k with
    | false => exact ⟨ρ, S1, F1, _, Ex, R.after A1, q2, kq.after A1, kw.after A1⟩
    | true => exact kq _ H1 S1 F1 A1 q2
theorem dt_not (ha : DT X W a tA) : DT X W (.UnaryOp .Not a pos) (dNot tA) :=
  (pt_not ha).weaken fun σ H Q q => by
    obtain ⟨ρ, S, F, Qd, Ex, R, q1, kq, kw⟩ := q
    exact ⟨ρ, S, F, _, Ex, R, q1, fun k H1 S1 F1 A1 q2 => kq _ H1 S1 F1 A1 q2, kw⟩
/-- .. as values that are truths (the last may be anything) -/
def dAndV (ta tb : DE) : DE := fun ρ S Q E => ta ρ S (fun x S1 => ∃ k, x = .bl k ∧ if k = true then tb ρ S1 Q E else Q (.bl false) S1) E
def dOrV (ta tb : DE) : DE := fun ρ S Q E => ta ρ S (fun x S1 => ∃ k, x = .bl k ∧ if k = true then Q (.bl true) S1 else tb ρ S1 Q E) E
def dNotV (ta : DE) : DE := fun ρ S Q E => ta ρ S (fun x S1 => ∃ k, x = .bl k ∧ Q (.bl (!k)) S1) E
theorem dx_one {op : BoolOp} (ha : DX X W a ta) : DX X W (.BoolOp op [a] pos) ta := pe_one ha
theorem dx_and (ha : DX X W a ta) (hb : DX X W (.BoolOp .And (b :: rest) pos) tb) : DX X W (.BoolOp .And (a :: b :: rest) pos) (dAndV ta tb) :=
  (pe_and ha hb).weaken fun σ H Q q => by
    obtain ⟨ρ, S, F, Qd, Ex, R, q1, kq, kw⟩ := q
    refine ⟨ρ, S, F, _, Ex, R, q1, fun v H1 S1 F1 d A1 dn q2 => ?_, kw⟩
    obtain ⟨k, e, q2⟩ := q2
    subst e
    refine ⟨k, blv dn, ?_⟩
    cases k with
    | true => exact ⟨ρ, S1, F1, _, Ex, R.after A1, q2, kq.after A1, kw.after A1⟩
    | false => exact kq _ H1 S1 F1 _ A1 (.bl false) q2
theorem dx_or (ha : DX X W a ta) (hb : DX X W (.BoolOp .Or (b :: rest) pos) tb) : DX X W (.BoolOp .Or (a :: b :: rest) pos) (dOrV ta tb) :=
  (pe_or ha hb).weaken fun σ H Q q => by
    obtain ⟨ρ, S, F, Qd, Ex, R, q1, kq, kw⟩ := q
    refine ⟨ρ, S, F, _, Ex, R, q1, fun v H1 S1 F1 d A1 dn q2 => ?_, kw⟩
    obtain ⟨k, e, q2⟩ := q2
    subst e
    refine ⟨k, blv dn, ?_⟩
    cases k with
    | false => exact ⟨ρ, S1, F1, _, Ex, R.after A1, q2, kq.after A1, kw.after A1⟩
    | true => exact kq _ H1 S1 F1 _ A1 (.bl true) q2
theorem dx_not (ha : DX X W a ta) : DX X W (.UnaryOp .Not a pos) (dNotV ta) :=
  (pe_not ha).weaken fun σ H Q q => by
    obtain ⟨ρ, S, F, Qd, Ex, R, q1, kq, kw⟩ := q
    refine ⟨ρ, S, F, _, Ex, R, q1, fun v H1 S1 F1 d A1 dn q2 => ?_, kw⟩
    obtain ⟨k, e, q2⟩ := q2
    subst e
    exact ⟨k, blv dn, kq _ H1 S1 F1 _ A1 (.bl (!k)) q2⟩
def dIf (t : DTt) (ta tb : DE) : DE := fun ρ S Q E => t ρ S (fun k S1 => if k = true then ta ρ S1 Q E else tb ρ S1 Q E) E
theorem dx_if (hc : DT X W c tA) (ha : DX X W a ta) (hb : DX X W b tb) : DX X W (.IfExp c a b pos) (dIf tA ta tb) :=
  (pe_ifExp hc ha hb).weaken fun σ H Q q => by
    obtain ⟨ρ, S, F, Qd, Ex, R, q1, kq, kw⟩ := q
    refine ⟨ρ, S, F, _, Ex, R, q1, fun k H1 S1 F1 A1 q2 => ?_, kw⟩
    cases k <;> exact ⟨ρ, S1, F1, _, Ex, R.after A1, q2, kq.after A1, kw.after A1⟩
/-! ### arguments, displays -/
def dNil : DAt := fun _ S Q _ => Q [] S
def dCons (t : DE) (u : DAt) : DAt := fun ρ S Q E => t ρ S (fun x S1 => u ρ S1 (fun xs S2 => Q (x :: xs) S2) E) E
variable {uA : DAt}
theorem da_nil : DA X W [] dNil := pa_nil.weaken fun σ H Q q => by
    obtain ⟨ρ, S, F, Qd, Ex, R, q1, kq, kw⟩ := q
    exact kq [] H S F [] (.refl R.r0) .nil q1
theorem da_cons (ha : DX X W e ta) (hr : DA X W es uA) (hs : starEach (e :: es) X.env = (false, eval e X.env) :: starEach es X.env := by rfl) : DA X W (e :: es) (dCons ta uA) :=
  (pa_cons ha hr hs).weaken fun σ H Q q => by
    obtain ⟨ρ, S, F, Qd, Ex, R, q1, kq, kw⟩ := q
    refine ⟨ρ, S, F, _, Ex, R, q1, fun v H1 S1 F1 d A1 dn q2 => ?_, kw⟩
    exact ⟨ρ, S1, F1, _, Ex, R.after A1, q2, fun vs H2 S2 F2 ds A2 dn2 q3 => kq _ H2 S2 F2 _ (A1.trans A2) (.cons (dn.mono A2.same) dn2) q3, kw.after A1⟩
/-- a tuple (frozen) -/
def dTup (t : DAt) : DE := fun ρ S Q E => t ρ S (fun xs S1 => xs.length ≤ 1000000 ∧ Q (.tup xs) S1) E
theorem le_line {n : Nat} (h : n ≤ 1000000) : n ≤ sizeLine := Nat.le_trans h (by rw [sizeLine_eq]; decide)
theorem dx_tup {k} (h : DA X W es uA) : DX X W (.Tuple es k pos) (dTup uA) :=
  (pe_tup h).weaken fun σ H Q q => by
    obtain ⟨ρ, S, F, Qd, Ex, R, q1, kq, kw⟩ := q
    refine ⟨ρ, S, F, _, Ex, R, q1, fun vs H1 S1 F1 ds A1 dn q2 => ?_, kw⟩
    obtain ⟨hl, q2⟩ := q2
    refine ⟨by rw [dn.length]; exact le_line hl, fun p hp => ?_⟩
    have A2 := A1.r0.newF (o := .tup vs) hp
    exact kq _ _ _ _ _ (A1.trans A2) (.tup (.inl upd_same) (dn.mono A2.same) (le_line hl)) q2
/-- a list, frozen; a list with identity -/
def dLst (t : DAt) : DE := fun ρ S Q E => t ρ S (fun xs S1 => xs.length ≤ 1000000 ∧ Q (.lst xs) S1) E
def dLstI (t : DAt) : DE := fun ρ S Q E => t ρ S (fun xs S1 => xs.length ≤ 1000000 ∧ ∀ a, S1 a = none → Q (.ref a) (updS S1 a (.lst xs))) E
theorem dx_lst (h : DA X W es uA) : DX X W (.List es pos) (dLst uA) :=
  (pe_lst h).weaken fun σ H Q q => by
    obtain ⟨ρ, S, F, Qd, Ex, R, q1, kq, kw⟩ := q
    refine ⟨ρ, S, F, _, Ex, R, q1, fun vs H1 S1 F1 ds A1 dn q2 => ?_, kw⟩
    obtain ⟨hl, q2⟩ := q2
    refine ⟨by rw [dn.length]; exact le_line hl, fun p hp => ?_⟩
    have A2 := A1.r0.newF (o := .lst vs) hp
    exact kq _ _ _ _ _ (A1.trans A2) (.lst upd_same (dn.mono A2.same) (le_line hl)) q2
theorem dx_lstI (h : DA X W es uA) : DX X W (.List es pos) (dLstI uA) :=
  (pe_lst h).weaken fun σ H Q q => by
    obtain ⟨ρ, S, F, Qd, Ex, R, q1, kq, kw⟩ := q
    refine ⟨ρ, S, F, _, Ex, R, q1, fun vs H1 S1 F1 ds A1 dn q2 => ?_, kw⟩
    obtain ⟨hl, q2⟩ := q2
    refine ⟨by rw [dn.length]; exact le_line hl, fun p hp => ?_⟩
    have A2 := A1.r0.newS (o := .lst vs) (i := .lst ds) hp ⟨dn, le_line hl⟩
    exact kq _ _ _ _ _ (A1.trans A2) (.ref p) (q2 p (A1.r0.noS hp))
/-! ### calls by values -/
abbrev RDs := List D → IS → DK → Prop
def LiftC (K : PySem.W.Frag) (r : List V → Hp → VK → Prop) (rd : RDs) : Prop := ∀ H S F vs ds Qd Q, Rel0 K H S F → Dens K F vs ds → rd ds S Qd → KOk K H S F Qd Q → r vs H Q
structure CallD (X : Cx) (f : Value) (rd : RDs) : Prop where
  ex : ∃ r, CallR X f r ∧ LiftC X.K r rd
def dCB (rd : RDs) (t : DAt) : DE := fun ρ S Q E => t ρ S (fun ds S1 => rd ds S1 Q) E
theorem cb {K : PySem.W.Frag} {t : DAt} {rd : RDs} {r : List V → Hp → VK → Prop} (l : LiftC K r rd) {σ : St} {H : Hp} {Q : VK} (q : cTE K W (dCB rd t) σ H Q) : tCB r (cTA K W t) σ H Q := by
  obtain ⟨ρ, S, F, Qd, Ex, R, q1, kq, kw⟩ := q
  exact ⟨ρ, S, F, _, Ex, R, q1, fun vs H1 S1 F1 ds A1 dn q2 => l H1 S1 F1 vs ds Qd Q A1.r0 dn q2 (kq.after A1), kw⟩
theorem dx_callB {id : String} {x : Str} {p : Pos} {rd : RDs} (hc : CallD X (.builtin id) rd) (hg : Gl X x) (hm : X.mg x = none) (hv : bootBuiltins x = some (.builtin id)) (ha : DA X W (e :: es) uA)
    (hx : ∀ {r : List V → Hp → VK → Prop}, CallR X (.builtin id) r → PE X (.Call (.Name x p) (e :: es) [] pos) (tCB r (cTA X.K W uA))) : DX X W (.Call (.Name x p) (e :: es) [] pos) (dCB rd uA) := by
  obtain ⟨r, h1, h2⟩ := hc.ex
  exact (hx h1).weaken fun σ H Q q => cb h2 q
theorem dx_callTy {T : String} {x : Str} {p : Pos} {rd : RDs} (hc : CallD X (.type T) rd) (hg : Gl X x) (hm : X.mg x = none) (hv : bootBuiltins x = some (.type T)) (ha : DA X W (e :: es) uA)
    (hx : ∀ {r : List V → Hp → VK → Prop}, CallR X (.type T) r → PE X (.Call (.Name x p) (e :: es) [] pos) (tCB r (cTA X.K W uA))) : DX X W (.Call (.Name x p) (e :: es) [] pos) (dCB rd uA) := by
  obtain ⟨r, h1, h2⟩ := hc.ex
  exact (hx h1).weaken fun σ H Q q => cb h2 q
end

/-! ### statements -/
section
variable {X : Cx} {W : WX} {st : Stmt} {rest : List Stmt} {t u : DSt} {e : Expr} {te : DE} {pos : Pos}
def dNext : DSt := fun E ρ S => E.nx ρ S
def dSeq (t u : DSt) : DSt := fun E ρ S => t { E with nx := u E } ρ S
theorem dss_nil : DSs X W [] dNext := pss_nil.weaken fun D σ H q => by
  obtain ⟨ρ, S, F, E, R, q1, k⟩ := q
  exact k.nx σ H ρ S F (.refl R.r0) R q1
theorem dss_cons (h1 : DS X W st t) (h2 : DSs X W rest u) : DSs X W (st :: rest) (dSeq t u) := (pss_cons h1 h2).weaken fun D σ H q => by
  obtain ⟨ρ, S, F, E, R, q1, k⟩ := q
  refine ⟨ρ, S, F, _, R, q1, ?_, k.bk, k.ct, k.rt, k.xc⟩
  exact fun σ' H' ρ' S' F' A R' q' => ⟨ρ', S', F', E, R', q', k.after A⟩
theorem dss_one (h1 : DS X W st t) : DSs X W [st] t := pss_one h1
def dBreak : DSt := fun E ρ S => E.bk ρ S
def dCont : DSt := fun E ρ S => E.ct ρ S
theorem ds_pass : DS X W (.Pass pos) dNext := ps_pass.weaken fun D σ H q => by
  obtain ⟨ρ, S, F, E, R, q1, k⟩ := q
  exact k.nx σ H ρ S F (.refl R.r0) R q1
theorem ds_break : DS X W (.Break pos) dBreak := ps_break.weaken fun D σ H q => by
  obtain ⟨ρ, S, F, E, R, q1, k⟩ := q
  exact k.bk σ H ρ S F (.refl R.r0) R q1
theorem ds_continue : DS X W (.Continue pos) dCont := ps_continue.weaken fun D σ H q => by
  obtain ⟨ρ, S, F, E, R, q1, k⟩ := q
  exact k.ct σ H ρ S F (.refl R.r0) R q1
def dDrop (te : DE) : DSt := fun E ρ S => te ρ S (fun _ S1 => E.nx ρ S1) (exOf E ρ)
theorem ds_expr (he : DX X W e te) (hs : swapsWith e none pos.line X.env = pure false := by rfl) : DS X W (.Expr e pos) (dDrop te) := (ps_expr he hs).weaken fun D σ H q => by
  obtain ⟨ρ, S, F, E, R, q1, k⟩ := q
  exact ⟨ρ, S, F, _, _, R, q1, fun v H1 S1 F1 d A1 dn q2 => k.nx σ H1 ρ S1 F1 A1 (R.after A1) q2, k.wok R⟩
def dRet (te : DE) : DSt := fun E ρ S => te ρ S E.rt (exOf E ρ)
theorem ds_ret (he : DX X W e te) : DS X W (.Return (some e) pos) (dRet te) := (ps_ret he).weaken fun D σ H q => by
  obtain ⟨ρ, S, F, E, R, q1, k⟩ := q
  exact ⟨ρ, S, F, _, _, R, q1, k.rt, k.wok R⟩
def dRetN : DSt := fun E _ S => E.rt .non S
theorem ds_retN : DS X W (.Return none pos) dRetN := ps_retN.weaken fun D σ H q => by
  obtain ⟨ρ, S, F, E, R, q1, k⟩ := q
  exact k.rt _ H S F _ (.refl R.r0) .non q1
def dIfS (c : DTt) (t u : DSt) : DSt := fun E ρ S => c ρ S (fun b S1 => if b = true then t E ρ S1 else u E ρ S1) (exOf E ρ)
theorem ds_if {c : Expr} {a b : List Stmt} {tc : DTt} (hc : DT X W c tc) (ha : DSs X W a t) (hb : DSs X W b u) : DS X W (.If c a b pos) (dIfS tc t u) := (ps_if hc ha hb).weaken fun D σ H q => by
  obtain ⟨ρ, S, F, E, R, q1, k⟩ := q
  refine ⟨ρ, S, F, _, _, R, q1, fun b H1 S1 F1 A1 q2 => ?_, k.wok R⟩
  cases b <;> exact ⟨ρ, S1, F1, E, R.after A1, q2, k.after A1⟩
def dNever : DSt := fun _ _ _ => False
theorem ds_never : DS X W st dNever := ps_never.weaken fun D σ H q => by
  obtain ⟨ρ, S, F, E, R, q1, k⟩ := q
  exact q1
/-- name = e -/
def dSet (i : Nat) (te : DE) : DSt := fun E ρ S => te ρ S (fun d S1 => E.nx (ρ.set i (some d)) S1) (exOf E ρ)
theorem set_of {K : PySem.W.Frag} {i : Nat} {te : DE} {D : Ends} {σ : St} {H : Hp} (q : cTS K W (dSet i te) D σ H) : tAsg (cTE K W te) (gName i) D σ H := by
  obtain ⟨ρ, S, F, E, R, q1, k⟩ := q
  exact ⟨ρ, S, F, _, _, R, q1, fun v H1 S1 F1 d A1 dn q2 => k.nx _ H1 _ S1 F1 A1 ((R.after A1).set dn i) q2, k.wok R⟩
theorem ds_set {i : Nat} {x : Str} {pos' : Pos} (he : DX X W e te) (hx : PE X e (cTE X.K W te) → PS X (.Assign [.Name x pos'] e pos) (tAsg (cTE X.K W te) (gName i))) : DS X W (.Assign [.Name x pos'] e pos) (dSet i te) :=
  (hx he).weaken fun D σ H q => set_of q
/-- name op= e -/
def dAug (i : Nat) (rd : RD) (te : DE) : DSt := fun E ρ S => ∃ x, ρ[i]? = some (some x) ∧ te ρ S (fun y S1 => rd x y S1 fun z S2 => E.nx (ρ.set i (some z)) S2) (exOf E ρ)
structure Ip2 (X : Cx) (op : Operator) (rd : RD) : Prop where
  ex : ∃ r : TIp, PIp X op r ∧ ∀ H S F x y dx dy Qd Q, Rel0 X.K H S F → Den X.K F x dx → Den X.K F y dy → rd dx dy S Qd → KOk X.K H S F Qd Q → r x y H Q
theorem ds_aug {i : Nat} {x : Str} {op : Operator} {rd : RD} {pos' : Pos} (ho : Ip2 X op rd) (he : DX X W e te) (hx : ∀ {ti : TIp}, PIp X op ti → PE X e (cTE X.K W te) → PS X (.AugAssign (.Name x pos') op e pos) (tAug i (cTE X.K W te) ti)) : DS X W (.AugAssign (.Name x pos') op e pos) (dAug i rd te) := by
  obtain ⟨r, h1, h2⟩ := ho.ex
  refine (hx h1 he).weaken fun D σ H q => ?_
  obtain ⟨ρ, S, F, E, R, ⟨d, e1, q1⟩, k⟩ := q
  obtain ⟨v, e2, dn⟩ := R.sl i d e1
  refine ⟨v, e2, ρ, S, F, _, _, R, q1, fun u H1 S1 F1 d1 A1 dn1 q2 => ?_, k.wok R⟩
  refine h2 H1 S1 F1 v u d d1 _ _ A1.r0 (dn.mono A1.same) dn1 q2 fun z H2 S2 F2 d2 A2 dn2 q3 => ?_
  exact k.nx _ H2 _ S2 F2 (A1.trans A2) ((R.after (A1.trans A2)).set dn2 i) q3
end
end DL

set_option Elab.async false
set_option linter.all false
set_option autoImplicit false
set_option maxRecDepth 100000
set_option maxHeartbeats 2000000
/-! DL3: targets, loops, comprehensions, defs and their calls, over data. -/
namespace DL
open PySem PySem.Spec L2

/-! ### targets -/
inductive Tg where
  | nm (i : Nat) | tp (ts : List Tg)
mutual
def asg : Tg → D → Rho → Option Rho
  | .nm i, d, ρ => some (ρ.set i (some d))
  | .tp ts, .tup ds, ρ => asgs ts ds ρ
  | .tp ts, .lst ds, ρ => asgs ts ds ρ
  | .tp _, _, _ => none
def asgs : List Tg → List D → Rho → Option Rho
  | [], [], ρ => some ρ
  | t :: ts, d :: ds, ρ => (asg t d ρ).bind fun ρ1 => asgs ts ds ρ1
  | _, _, _ => none
end
mutual
def Tg.slots : Tg → List Nat
  | .nm i => [i]
  | .tp ts => slotsL ts
def slotsL : List Tg → List Nat
  | [] => []
  | t :: ts => t.slots ++ slotsL ts
end
def cTG (K : PySem.W.Frag) (T : Tg) : TG := fun v σ H Q => ∃ ρ S F d ρ', Rel K σ H ρ S F ∧ Den K F v d ∧ asg T d ρ = some ρ' ∧ ∀ σ' : L2.St, σ'.length = σ.length → (∀ j : Nat, j ∉ T.slots → σ'[j]? = σ[j]?) → Rel K σ' H ρ' S F → Q σ' H
def cTGs (K : PySem.W.Frag) (Ts : List Tg) : TGs := fun vs σ H Q => ∃ ρ S F ds ρ', Rel K σ H ρ S F ∧ Dens K F vs ds ∧ asgs Ts ds ρ = some ρ' ∧ ∀ σ' : L2.St, σ'.length = σ.length → (∀ j : Nat, j ∉ slotsL Ts → σ'[j]? = σ[j]?) → Rel K σ' H ρ' S F → Q σ' H
abbrev DG (X : Cx) (tg : Expr) (T : Tg) : Prop := PG X tg (cTG X.K T)
abbrev DGs (X : Cx) (tgs : List Expr) (Ts : List Tg) : Prop := PGs X tgs (cTGs X.K Ts)
theorem _root_.L2.PG.weaken {X : Cx} {e : Expr} {t u : TG} (h : PG X e t) (w : ∀ v σ H Q, u v σ H Q → t v σ H Q) : PG X e u := ⟨fun pins s σ H v uu Q I r q => h.run pins s σ H v uu Q I r (w v σ H Q q)⟩
theorem _root_.L2.PGs.weaken {X : Cx} {e : List Expr} {t u : TGs} (h : PGs X e t) (w : ∀ v σ H Q, u v σ H Q → t v σ H Q) : PGs X e u := ⟨fun pins s σ H v uu Q I r q => h.run pins s σ H v uu Q I r (w v σ H Q q)⟩
theorem _root_.L2.PG.or {X : Cx} {e : Expr} {t u : TG} (h : PG X e t) (h' : PG X e u) : PG X e (fun v σ H Q => t v σ H Q ∨ u v σ H Q) := ⟨fun pins s σ H v uu Q I r q => q.elim (h.run pins s σ H v uu Q I r) (h'.run pins s σ H v uu Q I r)⟩
section
variable {X : Cx} {pos : Pos}
theorem dg_name {i : Nat} {x : Str} (h : PG X (.Name x pos) (gName i)) : DG X (.Name x pos) (.nm i) := h.weaken fun v σ H Q q => by
  obtain ⟨ρ, S, F, d, ρ', R, dn, e, k⟩ := q
  cases e
  refine k _ (by simp) (fun j hj => ?_) (R.set dn i)
  rw [List.getElem?_set_ne]
  intro z
  exact hj (by rw [Tg.slots, z]; exact List.mem_singleton_self _)
theorem dgs_nil : DGs X [] [] := pgs_nil.weaken fun vs σ H Q q => by
  obtain ⟨ρ, S, F, ds, ρ', R, dn, e, k⟩ := q
  cases dn with
  | nil =>
    cases e
    exact ⟨rfl, k σ rfl (fun _ _ => rfl) R⟩
  | cons _ _ => cases e
theorem dgs_cons {e : Expr} {es : List Expr} {T : Tg} {Ts : List Tg} (h1 : DG X e T) (h2 : DGs X es Ts)
    (hs : (assignEach (e :: es) X.env).map (·.2) = assign e X.env :: (assignEach es X.env).map (·.2) := by rfl) : DGs X (e :: es) (T :: Ts) := (pgs_cons h1 h2 hs).weaken fun vs σ H Q q => by
  obtain ⟨ρ, S, F, ds, ρ', R, dn, e, k⟩ := q
  cases dn with
  | nil => cases e
  | cons d1 dr =>
    rename_i v d vs ds
    obtain ⟨ρ1, e1, e2⟩ : ∃ ρ1, asg T d ρ = some ρ1 ∧ asgs Ts ds ρ1 = some ρ' := by
      rw [asgs] at e
      cases q : asg T d ρ with
      | none => rw [q] at e; cases e
      | some ρ1 => rw [q] at e; exact ⟨ρ1, rfl, e⟩
    refine ⟨v, vs, rfl, ρ, S, F, d, ρ1, R, d1, e1, fun σ1 l1 s1 R1 => ?_⟩
    refine ⟨ρ1, S, F, ds, ρ', R1, dr, e2, fun σ2 l2 s2 R2 => k σ2 (l2.trans l1) (fun j hj => ?_) R2⟩
    rw [slotsL, List.mem_append, not_or] at hj
    rw [s2 j hj.2, s1 j hj.1]
theorem dg_tp {es : List Expr} {k : Nat} {Ts : List Tg} (hc : X.calm = true) (h : DGs X es Ts)
    (hn : (assignEach es X.env).length = Ts.length := by rfl) (hst : (assignEach es X.env).findIdx? (·.1) = none := by rfl) : DG X (.Tuple es k pos) (.tp Ts) :=
  ((pg_tup hc h hn hst).or (pg_lst hc h hn hst)).weaken fun v σ H Q q => by
    obtain ⟨ρ, S, F, d, ρ', R, dn, e, kk⟩ := q
    have len : ∀ (Ts : List Tg) (ds : List D) (ρ ρ' : Rho), asgs Ts ds ρ = some ρ' → ds.length = Ts.length := by
      intro Ts
      induction Ts with
      | nil => intro ds ρ ρ' e; cases ds with
        | nil => rfl
        | cons _ _ => cases e
      | cons T Ts ih => intro ds ρ ρ' e; cases ds with
        | nil => cases e
        | cons d ds =>
          rw [asgs] at e
          cases q : asg T d ρ with
          | none => rw [q] at e; cases e
          | some ρ1 =>
            rw [q] at e
            rw [List.length_cons, List.length_cons, ih ds ρ1 ρ' e]
    cases dn with
    | tup hq dd hl =>
      rw [asg] at e
      exact .inl ⟨_, _, rfl, hq.sq R.r0.same, by rw [dd.length, len _ _ _ _ e], ρ, S, F, _, ρ', R, dd, e, fun σ' l s R' => kk σ' l (fun j hj => s j (by rw [Tg.slots] at hj; exact hj)) R'⟩
    | lst hq dd hl =>
      rw [asg] at e
      exact .inr ⟨_, _, rfl, .of (R.r0.same _ _ hq), by rw [dd.length, len _ _ _ _ e], ρ, S, F, _, ρ', R, dd, e, fun σ' l s R' => kk σ' l (fun j hj => s j (by rw [Tg.slots] at hj; exact hj)) R'⟩
    | non => cases e
    | bl _ => cases e
    | int _ => cases e
    | str _ => cases e
    | ty _ => cases e
    | ref _ => cases e
    | dct _ _ _ _ => cases e
    | dtt _ _ _ _ => cases e
    | scr _ _ => cases e
/-- target = e -/
def dAsg (T : Tg) (te : DE) : DSt := fun E ρ S => te ρ S (fun d S1 => ∃ ρ', asg T d ρ = some ρ' ∧ E.nx ρ' S1) (exOf E ρ)
theorem ds_asg {W : WX} {tg e : Expr} {te : DE} {T : Tg} (he : DX X W e te) (hg : DG X tg T) (hs : swapsWithSole [tg] e pos.line X.env = pure false := by rfl) (hw : swappedStores [tg] e X.env = pure none := by rfl)
    (h1 : (assignEach [tg] X.env).map (·.2) = [assign tg X.env] := by rfl) : DS X W (.Assign [tg] e pos) (dAsg T te) :=
  (ps_asg he hg hs hw h1).weaken fun D σ H q => by
    obtain ⟨ρ, S, F, E, R, q1, k⟩ := q
    refine ⟨ρ, S, F, _, _, R, q1, fun v H1 S1 F1 d A1 dn q2 => ?_, k.wok R⟩
    obtain ⟨ρ', e1, q2⟩ := q2
    exact ⟨ρ, S1, F1, d, ρ', R.after A1, dn, e1, fun σ' l s R' => k.nx σ' H1 ρ' S1 F1 A1 R' q2⟩
/-- a, b = x, y with plain names -/
def dPar (i j : Nat) (ta : DAt) : DSt := fun E ρ S => ta ρ S (fun ds S1 => ∃ d1 d2, ds = [d1, d2] ∧ E.nx ((ρ.set i (some d1)).set j (some d2)) S1) (exOf E ρ)
theorem ds_par {W : WX} {st : Stmt} {i j : Nat} {ta : DAt} (h : PS X st (tPar i j (cTA X.K W ta))) : DS X W st (dPar i j ta) := h.weaken fun D σ H q => by
  obtain ⟨ρ, S, F, E, R, q1, k⟩ := q
  refine ⟨ρ, S, F, _, _, R, q1, fun vs H1 S1 F1 ds A1 dn q2 => ?_, k.wok R⟩
  obtain ⟨d1, d2, e, q2⟩ := q2
  subst e
  cases dn with
  | cons n1 dn =>
    cases dn with
    | cons n2 dn =>
      cases dn
      exact ⟨_, _, rfl, k.nx _ H1 _ S1 F1 A1 (((R.after A1).set n1 i).set n2 j) q2⟩
end

/-! ### what is walked -/
structure JOk (K : PySem.W.Frag) (J : It) (F0 : Hp) (items : List D) : Prop where
  stop : ∀ F S H, Same F0 F → Rel0 K H S F → J.stop items.length H
  go : ∀ i F S H, Same F0 F → Rel0 K H S F → i < items.length → J.go i H
  yld : ∀ i F S H x H' d, Same F0 F → Rel0 K H S F → J.yld i H x H' → items[i]? = some d → ∃ F', After K H S F H' S F' ∧ Den K F' x d
abbrev DIt := Rho → IS → (List D → IS → Prop) → XKd → Prop
def IOkk (K : PySem.W.Frag) (H : Hp) (S : IS) (F : Hp) (Qd : List D → IS → Prop) (R : It → Hp → Prop) : Prop := ∀ J H' S' F' items, After K H S F H' S' F' → JOk K J F' items → items.length ≤ sizeLine → Qd items S' → R J H'
def cTI (K : PySem.W.Frag) (W : WX) (t : DIt) : TI := fun σ H R => ∃ ρ S F Qd Ex, Rel K σ H ρ S F ∧ t ρ S Qd Ex ∧ IOkk K H S F Qd R ∧ WOk K W σ H S F Ex
abbrev DI (X : Cx) (W : WX) (tg iter : Expr) (t : DIt) : Prop := PI X tg iter (cTI X.K W t)
theorem _root_.L2.PI.weaken {X : Cx} {tg iter : Expr} {t u : TI} (h : PI X tg iter t) (w : ∀ σ H Q, u σ H Q → t σ H Q) : PI X tg iter u := ⟨fun pins s σ H Q I q => h.run pins s σ H Q I (w σ H Q q)⟩
theorem _root_.L2.PI.or {X : Cx} {tg iter : Expr} {t u : TI} (h : PI X tg iter t) (h' : PI X tg iter u) : PI X tg iter (fun σ H Q => t σ H Q ∨ u σ H Q) := ⟨fun pins s σ H Q I q => q.elim (h.run pins s σ H Q I) (h'.run pins s σ H Q I)⟩
theorem jok_list {K : PySem.W.Frag} {F0 : Hp} {a : Addr} {vs : List V} {ds : List D} (h : SqL K F0 a vs) (dn : Dens K F0 vs ds) : JOk K (Itl K a) F0 ds where
  stop := fun F S H sm r => ⟨vs, r.same.seq (sm.seq h), by rw [dn.length]; exact Nat.le_refl _⟩
  go := fun i F S H sm r hi => by
    have hi' : i < vs.length := by rw [dn.length]; exact hi
    exact ⟨vs, vs[i], r.same.seq (sm.seq h), List.getElem?_eq_getElem hi'⟩
  yld := fun i F S H x H' d sm r y e => by
    obtain ⟨rfl, y⟩ := y
    obtain ⟨v, e1, n1⟩ := dn.get e
    have e2 := y vs (r.same.seq (sm.seq h))
    rw [e1] at e2; cases e2
    exact ⟨F, .refl r, n1.mono sm⟩
theorem jok_tup {K : PySem.W.Frag} {F0 : Hp} {a : Addr} {vs : List V} {ds : List D} (h : TpAt K F0 a vs) (dn : Dens K F0 vs ds) : JOk K (Itt K a) F0 ds where
  stop := fun F S H sm r => ⟨vs, (Same.tq sm h).sq r.same, by rw [dn.length]; exact Nat.le_refl _⟩
  go := fun i F S H sm r hi => by
    have hi' : i < vs.length := by rw [dn.length]; exact hi
    exact ⟨vs, vs[i], (Same.tq sm h).sq r.same, List.getElem?_eq_getElem hi'⟩
  yld := fun i F S H x H' d sm r y e => by
    obtain ⟨rfl, y⟩ := y
    obtain ⟨v, e1, n1⟩ := dn.get e
    have e2 := y vs ((Same.tq sm h).sq r.same)
    rw [e1] at e2; cases e2
    exact ⟨F, .refl r, n1.mono sm⟩
theorem jok_range {K : PySem.W.Frag} {F0 : Hp} {lo : Int} {n : Nat} : JOk K (Itr lo n) F0 ((List.range n).map fun i => .int (lo + (i : Nat))) where
  stop := fun F S H sm r => by
    show n ≤ ((List.range n).map fun i => D.int (lo + (i : Nat))).length
    simp
  go := fun i F S H sm r hi => by
    simp at hi
    exact hi
  yld := fun i F S H x H' d sm r y e => by
    obtain ⟨rfl, y⟩ := y
    subst y
    have hi : i < n := by
      by_cases hi : i < n
      · exact hi
      · rw [List.getElem?_eq_none (by simp; omega)] at e; cases e
    rw [List.getElem?_map, List.getElem?_range hi] at e
    cases e
    exact ⟨F, .refl r, .int _⟩
theorem jok_str {K : PySem.W.Frag} {F0 : Hp} {x : Str} : JOk K (Its x) F0 (x.cps.toList.map fun c => .str ⟨#[c]⟩) where
  stop := fun F S H sm r => by
    show x.cps.size ≤ (x.cps.toList.map fun c => D.str ⟨#[c]⟩).length
    simp
  go := fun i F S H sm r hi => by
    simp at hi
    exact hi
  yld := fun i F S H v H' d sm r y e => by
    obtain ⟨rfl, c, hc, rfl⟩ := y
    rw [List.getElem?_map, Array.getElem?_toList, hc] at e
    cases e
    exact ⟨F, .refl r, .str _⟩
/-- a walked value, by its own rule -/
def ItR (X : Cx) (r : V → Hp → (It → Hp → Prop) → Prop) : Prop := ∀ (tg : Expr) (pins : List (Addr × Obj)) (s : Shared) (σ : L2.St) (H : Hp) (x : V) (u : Value) (R : It → Hp → Prop), Inv X pins σ H s → RelV x u → r x H R → wpAny (model X.prog X.w) X.A (pyIter u) (PIE X pins σ tg R) X.xe s
section
variable {X : Cx} {W : WX} {tg iter : Expr} {te : DE}
theorem ItR.or {r r' : V → Hp → (It → Hp → Prop) → Prop} (h : ItR X r) (h' : ItR X r') : ItR X (fun x H R => r x H R ∨ r' x H R) := fun tg pins s σ H x u R I rx q => q.elim (h tg pins s σ H x u R I rx) (h' tg pins s σ H x u R I rx)
theorem itr_list : ItR X (fun x H R => ∃ a, x = .ref a ∧ (∃ xs, SqL X.K H a xs) ∧ R (Itl X.K a) H) := by
  intro tg pins s σ H x u R I rx q
  obtain ⟨a, rfl, ⟨xs, hq⟩, q⟩ := q
  cases rx
  obtain ⟨its, rv, p, hz⟩ := I.list hq
  exact wpAny_pyIter_list p.isList (pi_one (tk := s.toks) I _ (turn_list a _) ⟨_, Heap.get?_push_size _ rfl, rfl, rfl⟩ q)
theorem itr_tup : ItR X (fun x H R => ∃ a, x = .ref a ∧ (∃ xs, SqT X.K H a xs) ∧ R (Itt X.K a) H) := by
  intro tg pins s σ H x u R I rx q
  obtain ⟨a, rfl, ⟨xs, hq⟩, q⟩ := q
  cases rx
  obtain ⟨its, rv, p, hz⟩ := I.tuple hq
  exact wpAny_pyIter_tuple (show s.heap.IsTuple a its.toArray from p) (pi_one (tk := s.toks) I _ (turn_tuple a _) ⟨_, Heap.get?_push_size _ rfl, rfl, rfl⟩ q)
theorem itr_str : ItR X (fun x H R => ∃ y, x = .str y ∧ R (Its y) H) := by
  intro tg pins s σ H x u R I rx q
  obtain ⟨y, rfl, q⟩ := q
  obtain ⟨t, rfl⟩ := rx
  cases ha : y.cps.all (· < 128)
  · exact wpAny_pyIter_wide ha (pi_one (tk := s.toks) I _ (turn_str _ y t "str_iterator" (.inr rfl)) ⟨_, Heap.get?_push_size _ rfl, rfl, rfl⟩ q)
  · exact wpAny_pyIter_ascii ha (pi_one (tk := s.toks) I _ (turn_str _ y t "str_ascii_iterator" (.inl rfl)) ⟨_, Heap.get?_push_size _ rfl, rfl, rfl⟩ q)
theorem itr_keys : ItR X (fun x H R => ∃ d o kvs, x = .ref d ∧ H d = some (.frz o (.dK kvs)) ∧ R (Itk d o kvs) H) := by
  intro tg pins s σ H x u R I rx q
  obtain ⟨d, o, kvs, rfl, hd, q⟩ := q
  cases rx
  obtain ⟨hs, hgd, hx, es, ep, vs, hdt, hsz, kv, hm⟩ := I.frzK hd
  refine iter_keys hs hgd hx hdt (pi_one (tk := s.toks) I _ (turn_keys _ hdt) ⟨_, Heap.get?_push_size _ rfl, rfl, ?_⟩ q)
  rw [hsz] <;> rfl
theorem pi_of {u : TE} {r : V → Hp → (It → Hp → Prop) → Prop} (hu : PE X iter u) (hr : ItR X r) : PI X tg iter (fun σ H R => u σ H fun x H1 => r x H1 R) :=
  ⟨fun pins s σ H R I hq => thn (hu.run pins s σ H _ I hq) fun v s1 ⟨x, H1, I1, r1, q1⟩ => hr tg pins s1 σ H1 x v R I1 r1 q1⟩
theorem jok_keys {K : PySem.W.Frag} {F0 : Hp} {d : Addr} {o : Obj} {kvs : List (Key × V)} (h : F0 d = some (.frz o (.dK kvs))) : JOk K (Itk d o kvs) F0 (kvs.map fun kv => match kv.1 with | .inl i => .int i | .inr x => .str x) where
  stop := fun F S H sm r => ⟨r.same _ _ (sm _ _ h), by simp⟩
  go := fun i F S H sm r hi => ⟨r.same _ _ (sm _ _ h), by simpa using hi⟩
  yld := fun i F S H x H' e sm r y q => by
    obtain ⟨rfl, k, v, e1, rfl⟩ := y
    rw [List.getElem?_map, e1] at q
    cases q
    refine ⟨F, .refl r, ?_⟩
    cases k with
    | inl i => exact .int i
    | inr x => exact .str x
theorem dens_ints {K : PySem.W.Frag} {F : Hp} : ∀ ns : List Int, Dens K F (ns.map V.int) (ns.map .int)
  | [] => .nil
  | n :: ns => .cons (.int n) (dens_ints ns)
/-- what may be walked: lists, tuples, texts, dicts by their keys -/
def itemsOf : D → Option (List D)
  | .lst ds => some ds
  | .scr ns => some (ns.map .int)
  | .tup ds => some ds
  | .str x => if x.length ≤ 1000000 then some (x.cps.toList.map fun c => .str ⟨#[c]⟩) else none
  | .dct kds => some (kds.map fun kv => match kv.1 with | .inl i => .int i | .inr x => .str x)
  | _ => none
def dIter (te : DE) : DIt := fun ρ S Q E => te ρ S (fun d S1 => ∃ ds, itemsOf d = some ds ∧ Q ds S1) E
theorem di_iter (h : DX X W iter te) : DI X W tg iter (dIter te) :=
  (pi_of h (((itr_list (X := X)).or itr_tup).or (itr_str.or itr_keys))).weaken fun σ H R q => by
    obtain ⟨ρ, S, F, Qd, Ex, RR, q1, kq, kw⟩ := q
    refine ⟨ρ, S, F, _, Ex, RR, q1, fun v H1 S1 F1 d A1 dn q2 => ?_, kw⟩
    obtain ⟨ds, e, q2⟩ := q2
    cases dn with
    | lst hq dd hl =>
      cases e
      exact .inl (.inl ⟨_, rfl, ⟨_, .of (A1.r0.same _ _ hq)⟩, kq _ _ _ _ _ A1 (jok_list (.of hq) dd) hl q2⟩)
    | scr hq hl =>
      cases e
      exact .inl (.inl ⟨_, rfl, ⟨_, A1.r0.same.seq hq⟩, kq _ _ _ _ _ A1 (jok_list hq (dens_ints _)) (by rw [List.length_map]; exact hl) q2⟩)
    | tup hq dd hl =>
      cases e
      exact .inl (.inr ⟨_, rfl, ⟨_, hq.sq A1.r0.same⟩, kq _ _ _ _ _ A1 (jok_tup hq dd) hl q2⟩)
    | str x =>
      rw [itemsOf] at e
      split at e
      · rename_i hx
        cases e
        refine .inr (.inl ⟨x, rfl, kq _ _ _ _ _ A1 jok_str ?_ q2⟩)
        rw [List.length_map, Array.length_toList]
        exact le_line hx
      · cases e
    | @dct a o kvs kds hq dk hl nd =>
      cases e
      refine .inr (.inr ⟨_, _, _, rfl, A1.r0.same _ _ hq, ?_⟩)
      have ek : (kvs.map fun kv => match kv.1 with | .inl i => D.int i | .inr x => .str x) = (kds.map fun kv => match kv.1 with | .inl i => D.int i | .inr x => .str x) := by
        have q := congrArg (List.map fun (k : Key) => match k with | .inl i => D.int i | .inr x => .str x) dk.keys
        rw [List.map_map, List.map_map] at q
        exact q
      have j := jok_keys (K := X.K) hq
      rw [ek] at j
      exact kq _ _ _ _ _ A1 j (by rw [List.length_map]; exact hl) q2
    | non => cases e
    | bl _ => cases e
    | int _ => cases e
    | ty _ => cases e
    | ref _ => cases e
    | dtt _ _ _ _ => cases e
theorem den_int {K : PySem.W.Frag} {F : Hp} {v : V} {i : Int} (h : Den K F v (.int i)) : v = .int i := by cases h; rfl
theorem den_str {K : PySem.W.Frag} {F : Hp} {v : V} {x : Str} (h : Den K F v (.str x)) : v = .str x := by cases h; rfl
theorem dens1 {K : PySem.W.Frag} {F : Hp} {vs : List V} {d : D} (h : Dens K F vs [d]) : ∃ v, vs = [v] ∧ Den K F v d := by
  cases h with
  | cons h t => cases t; exact ⟨_, rfl, h⟩
theorem dens2 {K : PySem.W.Frag} {F : Hp} {vs : List V} {d e : D} (h : Dens K F vs [d, e]) : ∃ v u, vs = [v, u] ∧ Den K F v d ∧ Den K F u e := by
  cases h with
  | cons h t =>
    obtain ⟨u, rfl, h2⟩ := dens1 t
    exact ⟨_, _, rfl, h, h2⟩
/-- range(n), range(a, b) -/
def dRng1 (ta : DAt) : DIt := fun ρ S Q E => ta ρ S (fun ds S1 => ∃ n : Int, ds = [.int n] ∧ -1000000 ≤ n ∧ n ≤ 1000000 ∧ Q ((List.range n.toNat).map fun i => .int (0 + (i : Nat))) S1) E
def dRng2 (ta : DAt) : DIt := fun ρ S Q E => ta ρ S (fun ds S1 => ∃ a b : Int, ds = [.int a, .int b] ∧ -400000 ≤ a ∧ a ≤ 400000 ∧ -400000 ≤ b ∧ b ≤ 400000 ∧ Q ((List.range (b - a).toNat).map fun i => .int (a + (i : Nat))) S1) E
theorem di_rng1 {a : Expr} {ta : DAt} {p pos : Pos} (h : PI X tg (.Call (.Name "range" p) [a] [] pos) (iRng1 (cTA X.K W ta))) : DI X W tg (.Call (.Name "range" p) [a] [] pos) (dRng1 ta) :=
  h.weaken fun σ H R q => by
    obtain ⟨ρ, S, F, Qd, Ex, RR, q1, kq, kw⟩ := q
    refine ⟨ρ, S, F, _, Ex, RR, q1, fun vs H1 S1 F1 ds A1 dn q2 => ?_, kw⟩
    obtain ⟨n, e, h1, h2, q2⟩ := q2
    subst e
    obtain ⟨v, rfl, dn1⟩ := dens1 dn
    cases den_int dn1
    refine ⟨n, rfl, by omega, by omega, kq _ _ _ _ _ A1 jok_range ?_ q2⟩
    rw [List.length_map, List.length_range]
    exact le_line (by omega)
theorem di_rng2 {a b : Expr} {ta : DAt} {p pos : Pos} (h : PI X tg (.Call (.Name "range" p) [a, b] [] pos) (iRng2 (cTA X.K W ta))) : DI X W tg (.Call (.Name "range" p) [a, b] [] pos) (dRng2 ta) :=
  h.weaken fun σ H R q => by
    obtain ⟨ρ, S, F, Qd, Ex, RR, q1, kq, kw⟩ := q
    refine ⟨ρ, S, F, _, Ex, RR, q1, fun vs H1 S1 F1 ds A1 dn q2 => ?_, kw⟩
    obtain ⟨a, b, e, h1, h2, h3, h4, q2⟩ := q2
    subst e
    obtain ⟨v, u, rfl, dn1, dn2⟩ := dens2 dn
    cases den_int dn1
    cases den_int dn2
    refine ⟨a, b, rfl, ⟨by omega, by omega, by omega, by omega⟩, kq _ _ _ _ _ A1 jok_range ?_ q2⟩
    rw [List.length_map, List.length_range]
    exact le_line (by omega)
end

/-! ### for -/
def forW (T : Tg) (tb : DSt) (E : DEnds) : List D → Rho → IS → Prop
  | [], ρ, S => E.nx ρ S
  | d :: ds, ρ, S => ∃ ρ', asg T d ρ = some ρ' ∧ tb { E with nx := forW T tb E ds, ct := forW T tb E ds, bk := E.nx } ρ' S
def dFor (ti : DIt) (T : Tg) (tb : DSt) : DSt := fun E ρ S => ti ρ S (fun items S1 => forW T tb E items ρ S1) (exOf E ρ)
section
variable {X : Cx} {W : WX} {tg iter : Expr} {body : List Stmt} {ti : DIt} {T : Tg} {tb : DSt} {pos : Pos}
theorem for_of {K : PySem.W.Frag} {D : Ends} {σ : L2.St} {H : Hp} (q : cTS K W (dFor ti T tb) D σ H) : tFor (cTI K W ti) (cTG K T) (cTS K W tb) D σ H := by
  obtain ⟨ρ, S, F, E, R, q1, k⟩ := q
  refine ⟨ρ, S, F, _, _, R, q1, fun J H1 S1 F1 items A1 jok hlen q2 => ?_, k.wok R⟩
  refine ⟨fun i m σ' H' => m = items.length - i ∧ i ≤ items.length ∧ ∃ ρ' S' F', After K H S F H' S' F' ∧ Same F1 F' ∧ Rel K σ' H' ρ' S' F' ∧ forW T tb E (items.drop i) ρ' S',
    ⟨items.length, by simp, Nat.zero_le _, ρ, S1, F1, A1, Same.refl _, R.after A1, by rw [List.drop_zero]; exact q2⟩, ?_⟩
  rintro i m σ' H' ⟨rfl, hi, ρ', S', F', A', sm, R', w⟩
  by_cases hlt : i < items.length
  · obtain ⟨d, hd⟩ : ∃ d, items[i]? = some d := ⟨items[i], List.getElem?_eq_getElem hlt⟩
    have hdr : items.drop i = d :: items.drop (i + 1) := by
      rw [List.drop_eq_getElem_cons hlt]
      rw [List.getElem?_eq_getElem hlt] at hd
      cases hd
      rfl
    rw [hdr, forW] at w
    obtain ⟨ρ2, e2, w⟩ := w
    refine .inr ⟨jok.go i F' S' H' sm R'.r0 hlt, fun σ2 H2 => ∃ ρ2 S2 F2, After K H S F H2 S2 F2 ∧ Same F1 F2 ∧ Rel K σ2 H2 ρ2 S2 F2 ∧ forW T tb E (items.drop (i + 1)) ρ2 S2, fun σ2 H2 n => ⟨items.length - (i + 1), by omega, rfl, hlt, n⟩, fun x H'' y => ?_⟩
    obtain ⟨F'', A'', dn⟩ := jok.yld i F' S' H' x H'' d sm R'.r0 y hd
    refine ⟨ρ', S', F'', d, ρ2, R'.after A'', dn, e2, fun σ2 _ _ R2 => ?_⟩
    have AA := A'.trans A''
    refine ⟨ρ2, S', F'', _, R2, w, ⟨?_, ?_, ?_, (k.after AA).rt, (k.after AA).xc⟩⟩
    · exact fun σ3 H3 ρ3 S3 F3 A3 R3 q3 => ⟨ρ3, S3, F3, AA.trans A3, (sm.trans A''.same).trans A3.same, R3, q3⟩
    · exact fun σ3 H3 ρ3 S3 F3 A3 R3 q3 => k.nx σ3 H3 ρ3 S3 F3 (AA.trans A3) R3 q3
    · exact fun σ3 H3 ρ3 S3 F3 A3 R3 q3 => ⟨ρ3, S3, F3, AA.trans A3, (sm.trans A''.same).trans A3.same, R3, q3⟩
  · have e : i = items.length := by omega
    subst e
    rw [List.drop_length, forW] at w
    exact .inl ⟨jok.stop F' S' H' sm R'.r0, k.nx σ' H' ρ' S' F' A' R' w⟩
theorem ds_for (h : PI X tg iter (cTI X.K W ti) → PG X tg (cTG X.K T) → PSs X body (cTS X.K W tb) → PS X (.For tg iter body [] pos) (tFor (cTI X.K W ti) (cTG X.K T) (cTS X.K W tb)))
    (hi : DI X W tg iter ti) (hg : DG X tg T) (hb : DSs X W body tb) : DS X W (.For tg iter body [] pos) (dFor ti T tb) := (h hi hg hb).weaken fun D σ H q => for_of q
end

/-! ### while -/
def dWhile (c : DTt) (tb : DSt) : DSt := fun E ρ S => ∃ Inv : Nat → Rho → IS → Prop, (∃ m, Inv m ρ S) ∧ ∀ m ρ S, Inv m ρ S →
  c ρ S (fun b S1 => if b = true then tb { E with nx := fun ρ' S' => ∃ m', m' < m ∧ Inv m' ρ' S', ct := fun ρ' S' => ∃ m', m' < m ∧ Inv m' ρ' S', bk := E.nx } ρ S1 else E.nx ρ S1) (exOf E ρ)
theorem ds_while {X : Cx} {W : WX} {c : Expr} {body : List Stmt} {tc : DTt} {tb : DSt} {pos : Pos} (hp : PassesOwn (model X.prog X.w) X.A X.env X.xe) (hc : DT X W c tc) (hb : DSs X W body tb) : DS X W (.While c body [] pos) (dWhile tc tb) :=
  (ps_while hp hc hb).weaken fun D σ H q => by
    obtain ⟨ρ, S, F, E, R, ⟨Iv, ⟨m0, i0⟩, turn⟩, k⟩ := q
    refine ⟨fun m σ' H' => ∃ ρ' S' F', After X.K H S F H' S' F' ∧ Rel X.K σ' H' ρ' S' F' ∧ Iv m ρ' S', ⟨m0, ρ, S, F, .refl R.r0, R, i0⟩, ?_⟩
    rintro m σ' H' ⟨ρ', S', F', A', R', iv⟩
    refine ⟨ρ', S', F', _, _, R', turn m ρ' S' iv, fun b H1 S1 F1 A1 q2 => ?_, (k.after A').wok R'⟩
    have AA := A'.trans A1
    cases b with
    | true =>
      rw [if_pos rfl] at q2
      show ∃ N : L2.St → Hp → Prop, _
      refine ⟨fun σ2 H2 => ∃ m', m' < m ∧ ∃ ρ2 S2 F2, After X.K H S F H2 S2 F2 ∧ Rel X.K σ2 H2 ρ2 S2 F2 ∧ Iv m' ρ2 S2, fun σ2 H2 n => n, ρ', S1, F1, _, R'.after A1, q2, ⟨?_, ?_, ?_, (k.after AA).rt, (k.after AA).xc⟩⟩
      · exact fun σ3 H3 ρ3 S3 F3 A3 R3 ⟨m', l, q3⟩ => ⟨m', l, ρ3, S3, F3, AA.trans A3, R3, q3⟩
      · exact fun σ3 H3 ρ3 S3 F3 A3 R3 q3 => k.nx σ3 H3 ρ3 S3 F3 (AA.trans A3) R3 q3
      · exact fun σ3 H3 ρ3 S3 F3 A3 R3 ⟨m', l, q3⟩ => ⟨m', l, ρ3, S3, F3, AA.trans A3, R3, q3⟩
    | false =>
      rw [if_neg Bool.false_ne_true] at q2
      show D.nx σ' H1
      exact k.nx σ' H1 ρ' S1 F1 AA (R'.after A1) q2

/-! ### a list comprehension -/
def wipeD (ρ : Rho) : List Nat → Rho
  | [] => ρ
  | v :: vs => (wipeD ρ vs).set v none
theorem wipeD_length (ρ : Rho) : ∀ vs : List Nat, (wipeD ρ vs).length = ρ.length
  | [] => rfl
  | v :: vs => by unfold wipeD; rw [List.length_set, wipeD_length ρ vs]
theorem wipeD_some {ρ : Rho} {i : Nat} {x : D} : ∀ {vs : List Nat}, (wipeD ρ vs)[i]? = some (some x) → ρ[i]? = some (some x) ∧ i ∉ vs
  | [], h => ⟨h, by simp⟩
  | v :: vs, h => by
    unfold wipeD at h
    by_cases e : i = v
    · subst e
      by_cases hl : i < (wipeD ρ vs).length
      · rw [List.getElem?_set_self hl] at h; cases h
      · rw [List.getElem?_eq_none (by simpa using hl)] at h; cases h
    · rw [List.getElem?_set_ne (Ne.symm e)] at h
      obtain ⟨h1, h2⟩ := wipeD_some h
      exact ⟨h1, by simp [e, h2]⟩
theorem wipe_ext {vs : List Nat} : ∀ {σ σ' : L2.St}, σ'.length = σ.length → (∀ j : Nat, j ∉ vs → σ'[j]? = σ[j]?) → wipe σ' vs = wipe σ vs := by
  intro σ σ' hl h
  have key : ∀ (ws : List Nat) (τ : L2.St) (j : Nat), (wipe τ ws)[j]? = if j ∈ ws then (if j < τ.length then some none else none) else τ[j]? := by
    intro ws
    induction ws with
    | nil => intro τ j; simp [wipe]
    | cons v r ih =>
      intro τ j
      unfold wipe
      by_cases e : j = v
      · subst e
        by_cases hj : j < τ.length
        · rw [List.getElem?_set_self (by rw [wipe_length]; exact hj)]
          simp [hj]
        · rw [List.getElem?_eq_none (by simp [wipe_length]; omega)]
          simp [hj]
      · rw [List.getElem?_set_ne (Ne.symm e), ih]
        simp [e]
  apply List.ext_getElem?
  intro j
  rw [key, key, hl]
  by_cases hj : j ∈ vs
  · simp [hj]
  · simp [hj, h j hj]
theorem Rel.wiped {K : PySem.W.Frag} {σ : L2.St} {H : Hp} {ρ : Rho} {S : IS} {F : Hp} (R : Rel K σ H ρ S F) (vs : List Nat) : Rel K (wipe σ vs) H (wipeD ρ vs) S F :=
  ⟨R.r0, by rw [wipe_length, wipeD_length, R.len], fun i d e => by
    obtain ⟨e1, ni⟩ := wipeD_some e
    obtain ⟨v, h1, h2⟩ := R.sl i d e1
    exact ⟨v, by rw [wipe_out ni]; exact h1, h2⟩⟩
/-- the items, one after another: what is kept, what is made of it -/
def compW (T : Tg) (tt : DTt) (te : DE) (ρ : Rho) : List D → List D → IS → (List D → IS → Prop) → Prop
  | [], acc, S, Q => Q acc S
  | d :: ds, acc, S, Q => ∃ ρ', asg T d ρ = some ρ' ∧ tt ρ' S (fun b S1 => if b = true then te ρ' S1 (fun y S2 => compW T tt te ρ ds (acc ++ [y]) S2 Q) (fun _ _ _ => False) else compW T tt te ρ ds acc S1 Q) (fun _ _ _ => False)
def dLc (ti : DIt) (T : Tg) (tt : DTt) (te : DE) (vs : List Nat) : DE := fun ρ S Q E => ti ρ S (fun items S1 => compW T tt te (wipeD ρ vs) items [] S1 (fun acc S2 => Q (.lst acc) S2)) E
def dLcI (ti : DIt) (T : Tg) (tt : DTt) (te : DE) (vs : List Nat) : DE := fun ρ S Q E => ti ρ S (fun items S1 => compW T tt te (wipeD ρ vs) items [] S1 (fun acc S2 => ∀ a, S2 a = none → Q (.ref a) (updS S2 a (.lst acc)))) E
def W0 : WX := fun _ _ _ _ => False
theorem lc_of {K : PySem.W.Frag} {W : WX} {ti : DIt} {T : Tg} {tt : DTt} {te : DE} {vs : List Nat} {σ : L2.St} {H : Hp} {Q : VK} (hT : ∀ i ∈ T.slots, i ∈ vs)
    {ρ : Rho} {S : IS} {F : Hp} {Qf : List D → IS → Prop} {Ex : XKd} (R : Rel K σ H ρ S F) (q1 : ti ρ S (fun items S1 => compW T tt te (wipeD ρ vs) items [] S1 Qf) Ex) (kw : WOk K W σ H S F Ex)
    (fin : ∀ H' S' F' Da us acc, After K H S F H' S' F' → H' Da = some (.lst us) → Dens K F' us acc → acc.length ≤ sizeLine → S' Da = none → F' Da = none → (∀ b o, H b = some o → NT o → S b = none → b ≠ Da) → Qf acc S' → Q (.ref Da) H') :
    tLc (cTI K W ti) (cTG K T) (cTT K W0 tt) (cTE K W0 te) vs σ H Q := by
  refine ⟨ρ, S, F, _, Ex, R, q1, fun J H1 S1 F1 items A1 jok hlen q2 => ?_, kw⟩
  intro Da hDa
  have nS := A1.r0.noS hDa
  have nF := A1.r0.noF hDa
  have hne : ∀ b o, H b = some o → NT o → S b = none → b ≠ Da := fun b o e1 e0 e2 => ne_of_none (A1.keep b o e1 e0 e2).1 hDa
  have chg : ∀ {Hb Sb Fb} (u : HO), After K H S F Hb Sb Fb → Sb Da = none → Fb Da = none → After K H S F (upd Hb Da u) Sb Fb := fun {Hb Sb Fb} u a n1 n2 =>
    ⟨a.r0.chgT n2 n1, a.same, fun b o e1 e0 e2 => by
      rw [upd_ne (hne b o e1 e0 e2)]
      exact a.keep b o e1 e0 e2⟩
  refine ⟨fun i m H' => m = items.length - i ∧ i ≤ items.length ∧ ∃ S' F' acc us, After K H S F H' S' F' ∧ Same F1 F' ∧ H' Da = some (.lst us) ∧ Dens K F' us acc ∧ acc.length ≤ i ∧ S' Da = none ∧ F' Da = none ∧ compW T tt te (wipeD ρ vs) (items.drop i) acc S' Qf,
    ⟨items.length, by simp, Nat.zero_le _, S1, F1, [], [], chg _ A1 nS nF, Same.refl _, upd_same, .nil, Nat.zero_le _, nS, nF, by rw [List.drop_zero]; exact q2⟩, ?_⟩
  rintro i m H' ⟨rfl, hi, S', F', acc, us, A', sm, hD, dd, hl, nS', nF', w⟩
  by_cases hlt : i < items.length
  · obtain ⟨d, hd⟩ : ∃ d, items[i]? = some d := ⟨items[i], List.getElem?_eq_getElem hlt⟩
    have hdr : items.drop i = d :: items.drop (i + 1) := by
      rw [List.drop_eq_getElem_cons hlt]
      rw [List.getElem?_eq_getElem hlt] at hd
      cases hd
      rfl
    rw [hdr, compW] at w
    obtain ⟨ρ2, e2, w⟩ := w
    refine .inr ⟨jok.go i F' S' H' sm A'.r0 hlt, fun H2 => ∃ S2 F2 acc us, After K H S F H2 S2 F2 ∧ Same F1 F2 ∧ H2 Da = some (.lst us) ∧ Dens K F2 us acc ∧ acc.length ≤ i + 1 ∧ S2 Da = none ∧ F2 Da = none ∧ compW T tt te (wipeD ρ vs) (items.drop (i + 1)) acc S2 Qf,
      fun H2 n => ⟨items.length - (i + 1), by omega, rfl, hlt, n⟩, fun x H'' y => ?_⟩
    obtain ⟨F'', A'', dn⟩ := jok.yld i F' S' H' x H'' d sm A'.r0 y hd
    have RW : Rel K (wipe σ vs) H' (wipeD ρ vs) S' F' := (R.after A').wiped vs
    refine ⟨wipeD ρ vs, S', F'', d, ρ2, RW.after A'', dn, e2, fun σ2 hl2 hs2 R2 => ⟨?_, ?_⟩⟩
    · have e3 := wipe_ext (vs := vs) hl2 (fun j hj => hs2 j fun z => hj (hT j z))
      rw [e3]
      apply List.ext_getElem?
      intro j
      have idem : ∀ (ws : List Nat) (τ : L2.St) (j : Nat), (wipe τ ws)[j]? = if j ∈ ws then (if j < τ.length then some none else none) else τ[j]? := by
        intro ws
        induction ws with
        | nil => intro τ j; simp [wipe]
        | cons v r ih =>
          intro τ j
          unfold wipe
          by_cases e : j = v
          · subst e
            by_cases hj : j < τ.length
            · rw [List.getElem?_set_self (by rw [wipe_length]; exact hj)]
              simp [hj]
            · rw [List.getElem?_eq_none (by simp [wipe_length]; omega)]
              simp [hj]
          · rw [List.getElem?_set_ne (Ne.symm e), ih]
            simp [e]
      rw [idem, idem, wipe_length]
      by_cases hj : j ∈ vs
      · simp [hj]
      · simp [hj]
    · have AA := A'.trans A''
      obtain ⟨k1, k2, k3⟩ := A''.keep Da _ hD (by intro _ h; cases h) nS'
      refine ⟨ρ2, S', F'', _, _, R2, w, fun b H3 S3 F3 A3 q3 => ?_, fun _ _ _ _ _ _ _ _ z => z⟩
      obtain ⟨l1, l2, l3⟩ := A3.keep Da _ k1 (by intro _ h; cases h) k2
      cases b with
      | true =>
        rw [if_pos rfl] at q3
        show cTE K W0 te σ2 H3 _
        refine ⟨ρ2, S3, F3, _, _, R2.after A3, q3, fun v H4 S4 F4 y4 A4 dn4 q4 => ?_, fun _ _ _ _ _ _ _ _ z => z⟩
        obtain ⟨m1, m2, m3⟩ := A4.keep Da _ l1 (by intro _ h; cases h) l2
        have nF4 : F4 Da = none := by rw [m3, l3, k3]; exact nF'
        have sm4 : Same F' F4 := A''.same.trans (A3.same.trans A4.same)
        refine ⟨us, m1, ?_, S4, F4, acc ++ [y4], us ++ [v], chg _ (AA.trans (A3.trans A4)) m2 nF4, sm.trans sm4, upd_same, (dd.mono sm4).append (.one dn4), ?_, m2, nF4, q4⟩
        · rw [dd.length]; omega
        · rw [List.length_append]
          exact Nat.succ_le_succ hl
      | false =>
        rw [if_neg Bool.false_ne_true] at q3
        exact ⟨S3, F3, acc, us, AA.trans A3, sm.trans (A''.same.trans A3.same), l1, dd.mono (A''.same.trans A3.same), Nat.le_succ_of_le hl, l2, by rw [l3, k3]; exact nF', q3⟩
  · have e : i = items.length := by omega
    subst e
    rw [List.drop_length, compW] at w
    exact .inl ⟨jok.stop F' S' H' sm A'.r0, fin H' S' F' Da us acc A' hD dd (Nat.le_trans hl hlen) nS' nF' hne w⟩
theorem lc_frz {K : PySem.W.Frag} {W : WX} {ti : DIt} {T : Tg} {tt : DTt} {te : DE} {vs : List Nat} {σ : L2.St} {H : Hp} {Q : VK} (hT : ∀ i ∈ T.slots, i ∈ vs)
    (q : cTE K W (dLc ti T tt te vs) σ H Q) : tLc (cTI K W ti) (cTG K T) (cTT K W0 tt) (cTE K W0 te) vs σ H Q := by
  obtain ⟨ρ, S, F, Qd, Ex, R, q1, kq, kw⟩ := q
  refine lc_of hT R q1 kw fun H' S' F' Da us acc A' hD dd hl nS nF hne q2 => ?_
  have sm : Same F' (upd F' Da (.lst us)) := fun b u e => by rw [upd_ne (ne_of_none e nF)]; exact e
  refine kq _ H' S' (upd F' Da (.lst us)) _ ⟨⟨fun b u e => ?_, fun b j e => ?_, fun b u e => ?_⟩, A'.same.trans sm, fun b o e1 e0 e2 => ?_⟩ (.lst upd_same (dd.mono sm) hl) q2
  · by_cases hb : b = Da
    · subst hb; rw [upd_same] at e; cases e; exact ⟨hD, nS⟩
    · rw [upd_ne hb] at e; exact A'.r0.fz b u e
  · obtain ⟨u, h1, h2⟩ := A'.r0.io b j e
    exact ⟨u, h1, h2.mono sm⟩
  · by_cases hb : b = Da
    · subst hb; rw [upd_same] at e; cases e; intro _ h; cases h
    · rw [upd_ne hb] at e; exact A'.r0.nt b u e
  · obtain ⟨x1, x2, x3⟩ := A'.keep b o e1 e0 e2
    exact ⟨x1, x2, by rw [upd_ne (hne b o e1 e0 e2)]; exact x3⟩
theorem lc_own {K : PySem.W.Frag} {W : WX} {ti : DIt} {T : Tg} {tt : DTt} {te : DE} {vs : List Nat} {σ : L2.St} {H : Hp} {Q : VK} (hT : ∀ i ∈ T.slots, i ∈ vs)
    (q : cTE K W (dLcI ti T tt te vs) σ H Q) : tLc (cTI K W ti) (cTG K T) (cTT K W0 tt) (cTE K W0 te) vs σ H Q := by
  obtain ⟨ρ, S, F, Qd, Ex, R, q1, kq, kw⟩ := q
  refine lc_of hT R q1 kw fun H' S' F' Da us acc A' hD dd hl nS nF hne q2 => ?_
  refine kq _ H' (updS S' Da (.lst acc)) F' _ ⟨⟨fun b u e => ?_, fun b j e => ?_, A'.r0.nt⟩, A'.same, fun b o e1 e0 e2 => ?_⟩ (.ref Da) (q2 Da nS)
  · have hb : b ≠ Da := ne_of_none e nF
    rw [updS_ne hb]; exact A'.r0.fz b u e
  · by_cases hb : b = Da
    · subst hb; rw [updS_same] at e; cases e; exact ⟨_, hD, dd, hl⟩
    · rw [updS_ne hb] at e; exact A'.r0.io b j e
  · rw [updS_ne (hne b o e1 e0 e2)]
    exact A'.keep b o e1 e0 e2
section
variable {X : Cx} {W : WX} {elt tg iter : Expr} {ifs : List Expr} {scope : Scope} {pos : Pos} {ti : DIt} {T : Tg} {tt : DTt} {te : DE} {own : List (Str × Nat)}
/-- [e for x in xs (if t)] -/
theorem dx_lc (h : PE X (.ListComp elt [⟨tg, iter, ifs, 0⟩] scope pos) (tLc (cTI X.K W ti) (cTG X.K T) (cTT X.K W0 tt) (cTE X.K W0 te) (own.map (·.2)))) (hT : ∀ i ∈ T.slots, i ∈ own.map (·.2) := by decide) :
    DX X W (.ListComp elt [⟨tg, iter, ifs, 0⟩] scope pos) (dLc ti T tt te (own.map (·.2))) := h.weaken fun σ H Q q => lc_frz hT q
theorem dx_lcI (h : PE X (.ListComp elt [⟨tg, iter, ifs, 0⟩] scope pos) (tLc (cTI X.K W ti) (cTG X.K T) (cTT X.K W0 tt) (cTE X.K W0 te) (own.map (·.2)))) (hT : ∀ i ∈ T.slots, i ∈ own.map (·.2) := by decide) :
    DX X W (.ListComp elt [⟨tg, iter, ifs, 0⟩] scope pos) (dLcI ti T tt te (own.map (·.2))) := h.weaken fun σ H Q q => lc_own hT q
def dYes : DTt := fun _ S Q _ => Q true S
theorem pts_dnil : PTs X [] (cTT X.K W0 dYes) := ⟨fun pins s σ H Q I q => by
  obtain ⟨ρ, S, F, Qd, Ex, R, q1, kq, kw⟩ := q
  exact pts_nil.run pins s σ H Q I (kq true H S F (.refl R.r0) q1)⟩
theorem pts_done {c : Expr} {t : DTt} (h : DT X W0 c t) : PTs X [c] (cTT X.K W0 t) := pts_one h
end

/-! ### defs -/
abbrev SpD := List D → IS → DK → XKd → Prop
def LSp (K : PySem.W.Frag) (sp : SpD) : Sp := fun vs H Q E => ∃ ds S F Qd Ed, Rel0 K H S F ∧ Dens K F vs ds ∧ sp ds S Qd Ed ∧ KOk K H S F Qd Q ∧ ∀ cls dd xa H' S' F', After K H S F H' S' F' → XAt K F' dd xa → Ed cls xa S' → E cls dd H'
abbrev FnD (P : Program) (w : World) (K : PySem.W.Frag) (mg : Str → Option Value) (base : Heap) (k : Nat) (f : Addr) (fd : FuncData) (ps : List Str) (sp : SpD) : Prop := FnOk P w K mg base (L2.CX P w) k f fd ps (LSp K sp)
def startD (N : List Str) (ds : List D) : Rho := ds.map some ++ List.replicate (N.length - ds.length) none
def retE (Q : DK) (E : XKd) : DEnds := { nx := fun _ S' => Q .non S', rt := Q, xc := fun cls xa _ S' => E cls xa S' }
theorem rel_start {K : PySem.W.Frag} {H : Hp} {S : IS} {F : Hp} {N : List Str} {vs : List V} {ds : List D} (r : Rel0 K H S F) (dn : Dens K F vs ds) : Rel K (L2.start N vs) H (startD N ds) S F := by
  refine ⟨r, by simp [L2.start, startD, dn.length], fun i d e => ?_⟩
  unfold startD at e
  by_cases hi : i < ds.length
  · rw [List.getElem?_append_left (by simpa using hi), List.getElem?_map] at e
    cases q : ds[i]? with
    | none => rw [q] at e; cases e
    | some d' =>
      rw [q] at e
      cases e
      obtain ⟨v, h1, h2⟩ := dn.get q
      refine ⟨v, ?_, h2⟩
      unfold L2.start
      rw [List.getElem?_append_left (by simp [dn.length]; exact hi), List.getElem?_map, h1]
      rfl
  · rw [List.getElem?_append_right (by simpa using hi), List.getElem?_replicate] at e
    split at e <;> cases e
/-- THE RULE for a def -/
theorem fn_d {P : Program} {w : World} {K : PySem.W.Frag} {mg : Str → Option Value} {base : Heap} {x qual : Str} {st : Stmt} {f : Addr} {fd : FuncData} {N ps : List Str} {k : Nat} {sp : SpD} {t : DSt} (F : Fun K x qual st f fd) (Sc : FnScope N ps (defScope st)) (len : ∀ ds S Q E, sp ds S Q E → ds.length = ps.length)
    (hbody : ∀ (X : Cx) (W : WX) (cdv : Value) (A : Around) (outer : List Env) (s : Shared) (H : Hp) (E : XK), Room k (A.deeper (PyProof.Rows.envOfC qual (defScope st) s.heap.objs.size f cdv)) →
      X = cxOf (L2.CX P w) P w K mg base N qual (defScope st) f cdv A outer s H E → Takes X W → PassesOwn (model X.prog X.w) X.A X.env X.xe → DSs X W (defBody st) t)
    (hread : ∀ ds S Q E, sp ds S Q E → t (retE Q E) (startD N ds) S) : FnD P w K mg base (k + 1) f fd ps sp := by
  refine F.okX Sc (fun vs H Q E h => ?_) (fun cdv A outer s H vs Q E hr h => ?_)
  · obtain ⟨ds, S, F', Qd, Ed, r0, dn, h, _⟩ := h
    rw [dn.length]
    exact len ds S Qd Ed h
  · obtain ⟨ds, S, F', Qd, Ed, r0, dn, h, kq, kx⟩ := h
    have tk : Takes (cxOf (L2.CX P w) P w K mg base N qual (defScope st) f cdv A outer s H E) (fun cls d _ H' => E cls d H') := takes_of rfl rfl rfl rfl
    refine ⟨_, hbody _ _ cdv A outer s H E hr rfl tk (passes_of rfl), ?_⟩
    refine ⟨startD N ds, S, F', retE Qd Ed, rel_start r0 dn, hread ds S Qd Ed h, ⟨?_, ?_, ?_, kq, ?_⟩⟩
    · exact fun σ' H' ρ' S' F2 a R q => kq _ H' S' F2 _ a .non q
    · exact fun σ' H' ρ' S' F2 a R q => q.elim
    · exact fun σ' H' ρ' S' F2 a R q => q.elim
    · exact fun cls dd xa σ' H' ρ' S' F2 a R z q => kx cls dd xa H' S' F2 a z q
section
variable {X : Cx} {W : WX} {e : Expr} {es : List Expr} {ta : DAt} {pos p : Pos} {x : Str} {k : Nat} {f : Addr} {fd : FuncData} {ps : List Str} {sp : SpD}
/-- f(e, ..) -/
def dCall (sp : SpD) (ta : DAt) : DE := fun ρ S Q E => ta ρ S (fun ds S1 => sp ds S1 Q E) E
theorem dx_call (F : FnD X.prog X.w X.K X.mg X.base k f fd ps sp) (hr : Room k X.A) (tk : Takes X W) (hg : Gl X x) (hm : X.mg x = some (.ref f)) (hk : PySem.W.keepIn X.K (.ref f) = true) (hb : Binds X.K fd ps [])
    (ha : DA X W (e :: es) ta) (hdb : (x == ("__debug__" : Str)) = false := by decide) (he : starEach (e :: es) X.env = (false, eval e X.env) :: starEach es X.env := by rfl) (hpl : (backTo pos (starEach es X.env)).any (·.1) = false := by rfl) :
    DX X W (.Call (.Name x p) (e :: es) [] pos) (dCall sp ta) :=
  (pe_callS (E := WE W) F hr hg hm hk hb (fun σ => passAt tk σ) ha hdb he hpl).weaken fun σ H Q q => by
    obtain ⟨ρ, S, F', Qd, Ex, R, q1, kq, kw⟩ := q
    refine ⟨ρ, S, F', _, Ex, R, q1, fun vs H1 S1 F1 ds A1 dn q2 => ?_, kw⟩
    exact ⟨ds, S1, F1, Qd, Ex, A1.r0, dn, q2, kq.after A1, (kw.after A1)⟩
end
end DL

set_option Elab.async false
set_option linter.all false
set_option autoImplicit false
set_option maxRecDepth 100000
set_option maxHeartbeats 2000000
/-! DL4: operators, comparisons, subscripts, built-ins by data. -/
namespace DL
open PySem PySem.Spec L2

/-! ### views -/
/-- a thing with identity, as it stands -/
def vw (S : IS) : D → D
  | .ref a => match S a with
    | some (.lst ds) => .lst ds
    | some (.dct k) => .dct k
    | _ => .ref a
  | d => d
section
variable {K : PySem.W.Frag} {H : Hp} {S : IS} {F : Hp} {v : V} {d : D}
theorem vw_lst' {ds : List D} (r : Rel0 K H S F) (dn : Den K F v d) (e : vw S d = .lst ds) : ∃ a vs, v = .ref a ∧ H a = some (.lst vs) ∧ Dens K F vs ds ∧ ds.length ≤ sizeLine := by
  cases dn with
  | lst h dd hl =>
    cases e
    exact ⟨_, _, rfl, r.same _ _ h, dd, hl⟩
  | ref a =>
    rw [vw] at e
    cases q : S a with
    | none => rw [q] at e; cases e
    | some i =>
      rw [q] at e
      cases i with
      | lst ds' =>
        cases e
        obtain ⟨o, h1, h2⟩ := r.io a _ q
        cases o <;> first | exact h2.elim | exact ⟨a, _, rfl, h1, h2.1, h2.2⟩
      | dct _ => cases e
      | ins _ _ _ => cases e
      | raw _ => cases e
  | _ => cases e
theorem vw_lst {ds : List D} (r : Rel0 K H S F) (dn : Den K F v d) (e : vw S d = .lst ds) : ∃ a vs, v = .ref a ∧ H a = some (.lst vs) ∧ Dens K F vs ds :=
  let ⟨a, vs, h1, h2, h3, _⟩ := vw_lst' r dn e
  ⟨a, vs, h1, h2, h3⟩
theorem vw_dct {ds : List (Key × D)} (r : Rel0 K H S F) (dn : Den K F v d) (e : vw S d = .dct ds) : ∃ a kvs, v = .ref a ∧ Rd H a (.dK kvs) ∧ DenK K F kvs ds ∧ (ds.map (·.1)).Nodup := by
  cases dn with
  | dct h dd hl nd =>
    cases e
    exact ⟨_, _, rfl, .inr ⟨_, r.same _ _ h⟩, dd, nd⟩
  | ref a =>
    rw [vw] at e
    cases q : S a with
    | none => rw [q] at e; cases e
    | some i =>
      rw [q] at e
      cases i with
      | dct ds' =>
        cases e
        obtain ⟨o, h1, h2⟩ := r.io a _ q
        cases o <;> first | exact h2.elim | exact ⟨a, _, rfl, .inl h1, h2.1, h2.2.1⟩
      | lst _ => cases e
      | ins _ _ _ => cases e
      | raw _ => cases e
  | _ => cases e
theorem vw_tup {ds : List D} (r : Rel0 K H S F) (dn : Den K F v d) (e : vw S d = .tup ds) : ∃ a vs, v = .ref a ∧ SqT K H a vs ∧ Dens K F vs ds ∧ ds.length ≤ sizeLine := by
  cases dn with
  | tup h dd hl =>
    cases e
    exact ⟨_, _, rfl, h.sq r.same, dd, hl⟩
  | ref a =>
    rw [vw] at e
    cases q : S a with
    | none => rw [q] at e; cases e
    | some i => rw [q] at e; cases i <;> cases e
  | _ => cases e
theorem vw_str {x : Str} (dn : Den K F v d) (e : vw S d = .str x) : v = .str x := by
  cases dn with
  | str x' => cases e; rfl
  | ref a =>
    rw [vw] at e
    cases q : S a with
    | none => rw [q] at e; cases e
    | some i => rw [q] at e; cases i <;> cases e
  | _ => cases e
theorem vw_scr {ns : List Int} (r : Rel0 K H S F) (dn : Den K F v d) (e : vw S d = .scr ns) : ∃ a, v = .ref a ∧ SqL K H a (ns.map V.int) ∧ ns.length ≤ sizeLine := by
  cases dn with
  | scr h hl => cases e; exact ⟨_, rfl, r.same.seq h, hl⟩
  | ref a =>
    rw [vw] at e
    cases q : S a with
    | none => rw [q] at e; cases e
    | some i => rw [q] at e; cases i <;> cases e
  | _ => cases e
theorem den_bl {b : Bool} (h : Den K F v (.bl b)) : v = .bl b := by cases h; rfl
theorem den_non (h : Den K F v .non) : v = .non := by cases h; rfl
end

/-! ### keys -/
def keyD : D → Option Key
  | .int i => some (.inl i)
  | .str x => some (.inr x)
  | _ => none
section
variable {κ : Type} [DecidableEq κ]
def kget (kds : List (κ × D)) (k : κ) : Option D := (kds.find? fun kv => decide (kv.1 = k)).map (·.2)
def kput (kds : List (κ × D)) (k : κ) (d : D) : List (κ × D) :=
  if (kds.any fun kv => decide (kv.1 = k)) = true then kds.map (fun kv => if kv.1 = k then (kv.1, d) else kv) else kds ++ [(k, d)]
def kdrop (kds : List (κ × D)) (k : κ) : List (κ × D) := kds.filter fun kv => decide (kv.1 ≠ k)
end
theorem keyD_v {K : PySem.W.Frag} {F : Hp} {v : V} {d : D} {k : Key} (dn : Den K F v d) (e : keyD d = some k) : v = kV k := by
  cases dn <;> cases e <;> rfl
def RelO2 (K : PySem.W.Frag) (F : Hp) : Option V → Option D → Prop
  | some v, some d => Den K F v d
  | none, none => True
  | _, _ => False
section
variable {K : PySem.W.Frag} {F : Hp}
theorem DenK.get {k : Key} : ∀ {kvs : List (Key × V)} {kds : List (Key × D)}, DenK K F kvs kds → RelO2 K F (valV kvs k) (kget kds k)
  | _, _, .nil => trivial
  | _, _, .cons (k := k') h t => by
    by_cases e : k' = k
    · simp [valV, kget, List.find?_cons, e, RelO2]; exact h
    · have := DenK.get (k := k) t
      simp only [valV, kget, List.find?_cons, e, decide_false] at this ⊢
      exact this
theorem DenK.getS {k : Key} {kvs : List (Key × V)} {kds : List (Key × D)} {d : D} (h : DenK K F kvs kds) (e : kget kds k = some d) : ∃ v, valV kvs k = some v ∧ Den K F v d := by
  have q := h.get (k := k)
  rw [e] at q
  cases z : valV kvs k with
  | none => rw [z] at q; exact q.elim
  | some v => rw [z] at q; exact ⟨v, rfl, q⟩
theorem DenK.isSome {k : Key} {kvs : List (Key × V)} {kds : List (Key × D)} (h : DenK K F kvs kds) : (valV kvs k).isSome = (kget kds k).isSome := by
  have q := h.get (k := k)
  cases z : valV kvs k with
  | none =>
    rw [z] at q
    cases y : kget kds k with
    | none => rfl
    | some _ => rw [y] at q; exact q.elim
  | some v =>
    rw [z] at q
    cases y : kget kds k with
    | none => rw [y] at q; exact q.elim
    | some _ => rfl
theorem DenK.length : ∀ {kvs : List (Key × V)} {kds : List (Key × D)}, DenK K F kvs kds → kvs.length = kds.length
  | _, _, .nil => rfl
  | _, _, .cons _ t => by rw [List.length_cons, List.length_cons, DenK.length t]
theorem DenK.any {k : Key} : ∀ {kvs : List (Key × V)} {kds : List (Key × D)}, DenK K F kvs kds → (kvs.any fun kv => decide (kv.1 = k)) = (kds.any fun kv => decide (kv.1 = k))
  | _, _, .nil => rfl
  | _, _, .cons _ t => by rw [List.any_cons, List.any_cons, DenK.any t]
theorem DenK.app : ∀ {kvs us : List (Key × V)} {kds es : List (Key × D)}, DenK K F kvs kds → DenK K F us es → DenK K F (kvs ++ us) (kds ++ es)
  | _, _, _, _, .nil, h => h
  | _, _, _, _, .cons h t, h' => .cons h (DenK.app t h')
theorem DenK.rep {k : Key} {v : V} {d : D} (hd : Den K F v d) : ∀ {kvs : List (Key × V)} {kds : List (Key × D)}, DenK K F kvs kds → DenK K F (kvs.map (fun kv => if kv.1 = k then (kv.1, v) else kv)) (kds.map (fun kv => if kv.1 = k then (kv.1, d) else kv))
  | _, _, .nil => .nil
  | _, _, .cons (k := k') h t => by
    rw [List.map_cons, List.map_cons]
    by_cases e : k' = k
    · simp only [e, if_true]; exact .cons hd (DenK.rep hd t)
    · simp only [e, if_false]; exact .cons h (DenK.rep hd t)
theorem DenK.put {k : Key} {v : V} {d : D} (hd : Den K F v d) {kvs : List (Key × V)} {kds : List (Key × D)} (h : DenK K F kvs kds) : DenK K F (putK kvs k v) (kput kds k d) := by
  unfold putK kput
  rw [h.any]
  split
  · exact h.rep hd
  · exact h.app (.cons hd .nil)
theorem DenK.drop {k : Key} : ∀ {kvs : List (Key × V)} {kds : List (Key × D)}, DenK K F kvs kds → DenK K F (dropK kvs k) (kdrop kds k)
  | _, _, .nil => .nil
  | _, _, .cons (k := k') h t => by
    have ih := DenK.drop (k := k) t
    unfold dropK kdrop at ih ⊢
    by_cases e : k' = k
    · simp [List.filter_cons, e]; simpa using ih
    · simp [List.filter_cons, e]; exact .cons h (by simpa using ih)
end
section
variable {κ : Type} [DecidableEq κ]
theorem kput_keys_mem {kds : List (κ × D)} {k : κ} {d : D} : (kput kds k d).map (·.1) = if (kds.any fun kv => decide (kv.1 = k)) = true then kds.map (·.1) else kds.map (·.1) ++ [k] := by
  unfold kput
  split
  · rw [List.map_map]
    apply List.map_congr_left
    intro kv _
    show (if kv.1 = k then (kv.1, d) else kv).1 = kv.1
    split <;> rfl
  · simp
theorem kput_nodup {kds : List (κ × D)} {k : κ} {d : D} (h : (kds.map (·.1)).Nodup) : ((kput kds k d).map (·.1)).Nodup := by
  rw [kput_keys_mem]
  split
  · exact h
  · rename_i hn
    rw [List.nodup_append]
    refine ⟨h, by simp, fun x hx y hy => ?_⟩
    simp at hy
    subst hy
    intro e
    subst e
    apply hn
    rw [List.any_eq_true]
    obtain ⟨kv, h1, h2⟩ := List.mem_map.mp hx
    exact ⟨kv, h1, by simpa using h2⟩
theorem kput_length {kds : List (κ × D)} {k : κ} {d : D} : (kput kds k d).length ≤ kds.length + 1 := by
  unfold kput
  split
  · rw [List.length_map]; omega
  · simp
theorem kdrop_nodup {kds : List (κ × D)} {k : κ} (h : (kds.map (·.1)).Nodup) : ((kdrop kds k).map (·.1)).Nodup :=
  h.sublist ((List.filter_sublist).map _)
theorem kget_kput {kds : List (κ × D)} {k k' : κ} {d : D} : kget (kput kds k d) k' = if k' = k then some d else kget kds k' := by
  unfold kget kput
  induction kds with
  | nil => by_cases e : k = k' <;> simp [List.find?_cons, e, eq_comm]
  | cons p r ih =>
    obtain ⟨q, v⟩ := p
    by_cases hq : q = k
    · subst hq
      simp only [List.any_cons, decide_true, Bool.true_or, if_true, List.map_cons, List.find?_cons]
      by_cases e : q = k'
      · subst e; simp
      · simp only [e, decide_false, Ne.symm e, if_false]
        have key : ∀ l : List (κ × D), ((l.map (fun kv => if kv.1 = q then (kv.1, d) else kv)).find? fun kv => decide (kv.1 = k')).map (·.2) = (l.find? fun kv => decide (kv.1 = k')).map (·.2) := by
          intro l
          induction l with
          | nil => rfl
          | cons p l il =>
            obtain ⟨z, w⟩ := p
            by_cases e1 : z = q
            · subst e1
              simp only [List.map_cons, if_true, List.find?_cons, e, decide_false]
              exact il
            · by_cases e2 : z = k'
              · subst e2
                simp only [List.map_cons, e1, if_false, List.find?_cons, decide_true, Option.map_some]
              · simp only [List.map_cons, e1, if_false, List.find?_cons, e2, decide_false]
                exact il
        exact key r
    · simp only [List.any_cons, hq, decide_false, Bool.false_or] at ih ⊢
      by_cases ha : (r.any fun kv => decide (kv.1 = k)) = true
      · rw [if_pos ha] at ih ⊢
        simp only [List.map_cons, hq, if_false, List.find?_cons]
        by_cases e : q = k'
        · subst e; simp [hq]
        · simp only [e, decide_false]; exact ih
      · rw [if_neg ha] at ih ⊢
        simp only [List.cons_append, List.find?_cons]
        by_cases e : q = k'
        · subst e; simp [hq]
        · simp only [e, decide_false]; exact ih
end

/-! ### equality -/
mutual
def eqD : D → D → Bool
  | .non, .non => true
  | .bl a, .bl b => a == b
  | .bl a, .int j => (if a then 1 else 0) == j
  | .int i, .bl b => i == (if b then 1 else 0)
  | .int i, .int j => i == j
  | .str x, .str y => x == y
  | .lst xs, .lst ys => eqDs xs ys
  | .tup xs, .tup ys => eqDs xs ys
  | _, _ => false
def eqDs : List D → List D → Bool
  | [], [] => true
  | x :: xs, y :: ys => eqD x y && eqDs xs ys
  | _, _ => false
end
mutual
/-- plain data, so deep at most -/
def okD : Nat → D → Bool
  | _, .non => true
  | _, .bl _ => true
  | _, .int _ => true
  | _, .str x => x.cps.all (· < 0x110000)
  | 0, .lst _ => false
  | 0, .tup _ => false
  | n + 1, .lst xs => okDs n xs
  | n + 1, .tup xs => okDs n xs
  | _, _ => false
def okDs : Nat → List D → Bool
  | _, [] => true
  | n, x :: xs => okD n x && okDs n xs
end
mutual
def toPy : D → PyData
  | .bl b => .bool b
  | .int i => .int i
  | .str x => .str x
  | .lst xs => .list (toPys xs)
  | .tup xs => .tuple (toPys xs)
  | _ => .none
def toPys : List D → List PyData
  | [] => []
  | x :: xs => toPy x :: toPys xs
end
mutual
theorem ok_lay : ∀ (n : Nat) (d : D), okD n d = true → (toPy d).canLay0 = true ∧ (toPy d).depth ≤ n
  | n, .non, _ => by simp [toPy, PyData.canLay0, PyData.depth]
  | n, .bl _, _ => by simp [toPy, PyData.canLay0, PyData.depth]
  | n, .int _, _ => by simp [toPy, PyData.canLay0, PyData.depth]
  | n, .str x, h => by
    rw [okD] at h
    simp only [toPy, PyData.canLay0, PyData.depth, PyData.strOk]
    exact ⟨h, Nat.zero_le _⟩
  | 0, .lst _, h => by simp [okD] at h
  | 0, .tup _, h => by simp [okD] at h
  | n + 1, .lst xs, h => by
    rw [okD] at h
    obtain ⟨h1, h2⟩ := ok_lays n xs h
    simp only [toPy, PyData.canLay0, PyData.depth]
    exact ⟨h1, Nat.succ_le_succ h2⟩
  | n + 1, .tup xs, h => by
    rw [okD] at h
    obtain ⟨h1, h2⟩ := ok_lays n xs h
    simp only [toPy, PyData.canLay0, PyData.depth]
    exact ⟨h1, Nat.succ_le_succ h2⟩
  | n, .ty _, h => by simp [okD] at h
  | n, .dct _, h => by simp [okD] at h
  | n, .dtt _, h => by simp [okD] at h
  | n, .ref _, h => by simp [okD] at h
  | n, .scr _, h => by simp [okD] at h
theorem ok_lays : ∀ (n : Nat) (ds : List D), okDs n ds = true → PyData.canLayAll0 (toPys ds) = true ∧ PyData.depthAll (toPys ds) ≤ n
  | n, [], _ => by simp [toPys, PyData.canLayAll0, PyData.depthAll]
  | n, x :: xs, h => by
    rw [okDs, Bool.and_eq_true] at h
    obtain ⟨h1, h2⟩ := ok_lay n x h.1
    obtain ⟨h3, h4⟩ := ok_lays n xs h.2
    simp only [toPys, PyData.canLayAll0, PyData.depthAll, h1, h3, Bool.and_self, true_and]
    exact Nat.max_le.mpr ⟨h2, h4⟩
end
theorem shaped_of_ok {n : Nat} {d : D} (h : okD n d = true) (hn : n ≤ 64) : SeqAt.shaped (toPy d) = true := by
  obtain ⟨h1, h2⟩ := ok_lay n d h
  unfold SeqAt.shaped
  rw [h1, decide_eq_true (Nat.le_trans h2 hn)]
  rfl
mutual
theorem eqv_toPy : ∀ (x y : D) (n m : Nat), okD n x = true → okD m y = true → PyData.eqv (toPy x) (toPy y) = eqD x y
  | x, y, n, m, hx, hy => by
    cases x <;> cases y <;> (try (simp [okD] at hx; done)) <;> (try (simp [okD] at hy; done)) <;> (try (simp [toPy, PyData.eqv, eqD]; done))
    · rename_i xs ys
      cases n with
      | zero => simp [okD] at hx
      | succ n =>
        cases m with
        | zero => simp [okD] at hy
        | succ m =>
          rw [okD] at hx hy
          simp only [toPy, PyData.eqv, eqD]
          exact eqvs_toPy xs ys n m hx hy
    · rename_i xs ys
      cases n with
      | zero => simp [okD] at hx
      | succ n =>
        cases m with
        | zero => simp [okD] at hy
        | succ m =>
          rw [okD] at hx hy
          simp only [toPy, PyData.eqv, eqD]
          exact eqvs_toPy xs ys n m hx hy
theorem eqvs_toPy : ∀ (xs ys : List D) (n m : Nat), okDs n xs = true → okDs m ys = true → PyData.eqvAll (toPys xs) (toPys ys) = eqDs xs ys
  | [], [], _, _, _, _ => by simp [toPys, PyData.eqvAll, eqDs]
  | [], _ :: _, _, _, _, _ => by simp [toPys, PyData.eqvAll, eqDs]
  | _ :: _, [], _, _, _, _ => by simp [toPys, PyData.eqvAll, eqDs]
  | x :: xs, y :: ys, n, m, hx, hy => by
    rw [okDs, Bool.and_eq_true] at hx hy
    simp only [toPys, PyData.eqvAll, eqDs, eqv_toPy x y n m hx.1 hy.1, eqvs_toPy xs ys n m hx.2 hy.2]
end
mutual
theorem dp_of {K : PySem.W.Frag} {F H : Hp} (sm : Same F H) : ∀ {v : V} {d : D} {n : Nat}, Den K F v d → okD n d = true → Dp K H v (toPy d)
  | _, _, _, .non, _ => .non
  | _, _, _, .bl b, _ => by simp only [toPy]; exact .bl b
  | _, _, _, .int i, _ => by simp only [toPy]; exact .int i
  | _, _, _, .str x, _ => by simp only [toPy]; exact .str x
  | _, _, n, .ty _, h => by simp [okD] at h
  | _, _, n, .ref _, h => by simp [okD] at h
  | _, _, n, .scr _ _, h => by simp [okD] at h
  | _, _, n, .dct _ _ _ _, h => by simp [okD] at h
  | _, _, n, .dtt _ _ _ _, h => by simp [okD] at h
  | _, _, 0, .tup _ _ _, h => by simp [okD] at h
  | _, _, 0, .lst _ _ _, h => by simp [okD] at h
  | _, _, n + 1, .tup hq dd _, h => by
    rw [okD] at h
    simp only [toPy]
    exact .tup (hq.sq sm) (dps_of sm dd h)
  | _, _, n + 1, .lst hq dd _, h => by
    rw [okD] at h
    simp only [toPy]
    exact .lst (.of (sm _ _ hq)) (dps_of sm dd h)
theorem dps_of {K : PySem.W.Frag} {F H : Hp} (sm : Same F H) : ∀ {v : List V} {d : List D} {n : Nat}, Dens K F v d → okDs n d = true → DpAll K H v (toPys d)
  | _, _, _, .nil, _ => by simp only [toPys]; exact .nil
  | _, _, _, .cons h t, q => by
    rw [okDs, Bool.and_eq_true] at q
    simp only [toPys]
    exact .cons (dp_of sm h q.1) (dps_of sm t q.2)
end

/-! ### operators -/
theorem op2_of {X : Cx} {f : Value → Value → Sem Value} {r : R2} {rd : RD} (h : OpR X f r) (l : Lift2 X.K r rd) : Op2 X f rd := ⟨r, h, l⟩
theorem Op2.or {X : Cx} {f : Value → Value → Sem Value} {rd rd' u : RD} (h : Op2 X f rd) (h' : Op2 X f rd') (w : ∀ x y S Q, u x y S Q → rd x y S Q ∨ rd' x y S Q) : Op2 X f u := by
  obtain ⟨r, h1, h2⟩ := h.ex
  obtain ⟨r', h1', h2'⟩ := h'.ex
  exact ⟨_, h1.or h1', fun H S F x y dx dy Qd Q r0 nx ny q k => (w _ _ _ _ q).elim (fun z => .inl (h2 H S F x y dx dy Qd Q r0 nx ny z k)) fun z => .inr (h2' H S F x y dx dy Qd Q r0 nx ny z k)⟩
section
variable {X : Cx}
def rdI (C : Int → Int → Prop) (g : Int → Int → D) : RD := fun x y S Q => match x, y with
  | .int i, .int j => C i j ∧ Q (g i j) S
  | _, _ => False
theorem rdI_inv {C : Int → Int → Prop} {g : Int → Int → D} {x y : D} {S : IS} {Q : DK} (h : rdI C g x y S Q) : ∃ i j, x = .int i ∧ y = .int j ∧ C i j ∧ Q (g i j) S := by
  unfold rdI at h
  split at h
  · exact ⟨_, _, rfl, rfl, h⟩
  · exact h.elim
theorem op_i {f : Value → Value → Sem Value} {C : Int → Int → Prop} {g : Int → Int → V} {gd : Int → Int → D} (h : OpR X f (rI C g)) (hg : ∀ i j F, Den X.K F (g i j) (gd i j)) : Op2 X f (rdI C gd) :=
  ⟨_, h, fun H S F x y dx dy Qd Q r0 nx ny q k => by
    obtain ⟨i, j, rfl, rfl, c, q⟩ := rdI_inv q
    cases den_int nx
    cases den_int ny
    exact ⟨i, j, rfl, rfl, c, k _ H S F _ (.refl r0) (hg i j F) q⟩⟩
theorem op_i0 {f : Value → Value → Sem Value} {g : Int → Int → V} {gd : Int → Int → D} (h : OpR X f (rI0 g)) (hg : ∀ i j F, Den X.K F (g i j) (gd i j)) : Op2 X f (rdI (fun _ _ => True) gd) :=
  ⟨_, h, fun H S F x y dx dy Qd Q r0 nx ny q k => by
    obtain ⟨i, j, rfl, rfl, c, q⟩ := rdI_inv q
    cases den_int nx
    cases den_int ny
    exact ⟨i, j, rfl, rfl, k _ H S F _ (.refl r0) (hg i j F) q⟩⟩
abbrev rdSub : RD := rdI (fun _ _ => True) fun i j => .int (i - j)
abbrev rdMul : RD := rdI CMul fun i j => .int (i * j)
abbrev rdDiv : RD := rdI CDiv fun i j => .int (i / j)
abbrev rdMod : RD := rdI (fun _ j => 0 < j) fun i j => .int (i % j)
abbrev rdPow : RD := rdI CPow fun i j => .int (i ^ j.toNat)
abbrev rdLt : RD := rdI (fun _ _ => True) fun i j => .bl (decide (i < j))
abbrev rdLe : RD := rdI (fun _ _ => True) fun i j => .bl (decide (i ≤ j))
abbrev rdGt : RD := rdI (fun _ _ => True) fun i j => .bl (decide (j < i))
abbrev rdGe : RD := rdI (fun _ _ => True) fun i j => .bl (decide (j ≤ i))
theorem o_sub : Op2 X (binaryOp .Sub) rdSub := op_i0 op_sub fun _ _ _ => .int _
theorem o_mul : Op2 X (binaryOp .Mult) rdMul := op_i op_mul fun _ _ _ => .int _
theorem o_div : Op2 X (binaryOp .FloorDiv) rdDiv := op_i op_fdiv fun _ _ _ => .int _
theorem o_mod : Op2 X (binaryOp .Mod) rdMod := op_i op_mod fun _ _ _ => .int _
theorem o_pow : Op2 X (binaryOp .Pow) rdPow := op_i op_pow fun _ _ _ => .int _
theorem o_lt : Op2 X (compareOp .Lt) rdLt := op_i0 op_lt fun _ _ _ => .bl _
theorem o_le : Op2 X (compareOp .LtE) rdLe := op_i0 op_le fun _ _ _ => .bl _
theorem o_gt : Op2 X (compareOp .Gt) rdGt := op_i0 op_gt fun _ _ _ => .bl _
theorem o_ge : Op2 X (compareOp .GtE) rdGe := op_i0 op_ge fun _ _ _ => .bl _
/-! + -/
def rdAdd : RD := fun x y S Q => match vw S x, vw S y with
  | .int i, .int j => Q (.int (i + j)) S
  | .str a, .str b => a.length + b.length ≤ 1000000 ∧ Q (.str (a ++ b)) S
  | .lst a, .lst b => a.length + b.length ≤ 1000000 ∧ Q (.lst (a ++ b)) S
  | .tup a, .tup b => a.length + b.length ≤ 1000000 ∧ Q (.tup (a ++ b)) S
  | _, _ => False
theorem vw_int {K : PySem.W.Frag} {F : Hp} {S : IS} {v : V} {d : D} {i : Int} (dn : Den K F v d) (e : vw S d = .int i) : v = .int i := by
  cases dn with
  | int x' => cases e; rfl
  | ref a =>
    rw [vw] at e
    cases q : S a with
    | none => rw [q] at e; cases e
    | some i => rw [q] at e; cases i <;> cases e
  | _ => cases e
theorem o_add : Op2 X (binaryOp .Add) rdAdd := by
  refine ⟨_, ((op_add (X := X)).or op_add_str).or (op_cat.or op_catA), fun H S F x y dx dy Qd Q r0 nx ny q k => ?_⟩
  unfold rdAdd at q
  split at q
  · rename_i i j e1 e2
    cases vw_int nx e1
    cases vw_int ny e2
    exact .inl (.inl ⟨i, j, rfl, rfl, k _ H S F _ (.refl r0) (.int _) q⟩)
  · rename_i a b e1 e2
    cases vw_str nx e1
    cases vw_str ny e2
    exact .inl (.inr ⟨a, b, rfl, rfl, le_line q.1, k _ H S F _ (.refl r0) (.str _) q.2⟩)
  · rename_i a b e1 e2
    obtain ⟨l, vs, rfl, h1, d1⟩ := vw_lst r0 nx e1
    obtain ⟨m, us, rfl, h2, d2⟩ := vw_lst r0 ny e2
    refine .inr (.inl ⟨l, m, vs, us, rfl, rfl, h1, h2, by rw [d1.length, d2.length]; exact le_line q.1, fun p hp => ?_⟩)
    have A := r0.newF (o := .lst (vs ++ us)) hp
    exact k _ _ _ _ _ A (.lst upd_same ((d1.append d2).mono A.same) (by rw [List.length_append]; exact le_line q.1)) q.2
  · rename_i a b e1 e2
    obtain ⟨l, vs, rfl, h1, d1, l1⟩ := vw_tup r0 nx e1
    obtain ⟨m, us, rfl, h2, d2, l2⟩ := vw_tup r0 ny e2
    have hn : ∀ {us : List V} {ds : List D}, Dens X.K F us ds → us = [] → ds = [] := fun dd e => by subst e; cases dd; rfl
    cases dx with
    | tup dsx =>
      cases e1
      cases dy with
      | tup dsy =>
        cases e2
        refine .inr (.inr ⟨l, m, vs, us, rfl, rfl, h1, h2, by rw [d1.length, d2.length]; exact le_line q.1, fun e => ?_, fun _ e => ?_, fun _ _ p hp => ?_⟩)
        · rw [hn d1 e, List.nil_append] at q
          exact k _ H S F _ (.refl r0) ny q.2
        · rw [hn d2 e, List.append_nil] at q
          exact k _ H S F _ (.refl r0) nx q.2
        · have A := r0.newF (o := .tup (vs ++ us)) hp
          exact k _ _ _ _ _ A (.tup (.inl upd_same) ((d1.append d2).mono A.same) (by rw [List.length_append]; exact le_line q.1)) q.2
      | ref a => rw [vw] at e2; cases z : S a with
        | none => rw [z] at e2; cases e2
        | some i => rw [z] at e2; cases i <;> cases e2
      | _ => cases e2
    | ref a => rw [vw] at e1; cases z : S a with
        | none => rw [z] at e1; cases e1
        | some i => rw [z] at e1; cases i <;> cases e1
    | _ => cases e1
  · exact q.elim
/-! ==, != -/
/-- a thing with identity, frozen where it is compared -/
def flatD : D → Bool
  | .non => true
  | .bl _ => true
  | .int _ => true
  | .str _ => true
  | _ => false
def okE (x y : D) : Prop := okD 60 x = true ∧ okD 60 y = true
def rdEq : RD := fun x y S Q => okE (vw S x) (vw S y) ∧ Q (.bl (eqD (vw S x) (vw S y))) S
def rdNe : RD := fun x y S Q => okE (vw S x) (vw S y) ∧ Q (.bl (!eqD (vw S x) (vw S y))) S
theorem dp_vw {K : PySem.W.Frag} {H : Hp} {S : IS} {F : Hp} {v : V} {d : D} {n : Nat} (r : Rel0 K H S F) (dn : Den K F v d) (h : okD n (vw S d) = true) : Dp K H v (toPy (vw S d)) := by
  cases dn with
  | ref a =>
    cases q : S a with
    | none => rw [vw, q] at h; simp [okD] at h
    | some i =>
      cases i with
      | lst ds =>
        have ev : vw S (.ref a) = .lst ds := by rw [vw, q]
        rw [ev] at h ⊢
        obtain ⟨o, h1, h2⟩ := r.io a _ q
        cases o <;> first | exact h2.elim | skip
        cases n with
        | zero => simp [okD] at h
        | succ n =>
          have h' : okDs n ds = true := by simpa [okD] using h
          simp only [toPy]
          exact .lst (.of h1) (dps_of r.same h2.1 h')
      | dct _ => rw [vw, q] at h; simp [okD] at h
      | ins _ _ _ => rw [vw, q] at h; simp [okD] at h
      | raw _ => rw [vw, q] at h; simp [okD] at h
  | non => exact dp_of r.same .non h
  | bl b => exact dp_of r.same (.bl b) h
  | int b => exact dp_of r.same (.int b) h
  | str b => exact dp_of r.same (.str b) h
  | ty b => exact dp_of r.same (.ty b) h
  | tup h1 h2 h3 => exact dp_of r.same (.tup h1 h2 h3) h
  | lst h1 h2 h3 => exact dp_of r.same (.lst h1 h2 h3) h
  | scr h1 h2 => exact dp_of r.same (.scr h1 h2) h
  | dct h1 h2 h3 h4 => exact dp_of r.same (.dct h1 h2 h3 h4) h
  | dtt h1 h2 h3 h4 => exact dp_of r.same (.dtt h1 h2 h3 h4) h
theorem o_eq (hu : X.A.units + 64 < cLine) : Op2 X (compareOp .Eq) rdEq := ⟨_, op_eqD hu, fun H S F x y dx dy Qd Q r0 nx ny q k => by
  obtain ⟨⟨o1, o2⟩, q⟩ := q
  refine ⟨_, _, dp_vw r0 nx o1, dp_vw r0 ny o2, shaped_of_ok o1 (by decide), shaped_of_ok o2 (by decide), ?_⟩
  rw [eqv_toPy _ _ _ _ o1 o2]
  exact k _ H S F _ (.refl r0) (.bl _) q⟩
theorem o_ne (hu : X.A.units + 64 < cLine) : Op2 X (compareOp .NotEq) rdNe := ⟨_, op_neD hu, fun H S F x y dx dy Qd Q r0 nx ny q k => by
  obtain ⟨⟨o1, o2⟩, q⟩ := q
  refine ⟨_, _, dp_vw r0 nx o1, dp_vw r0 ny o2, shaped_of_ok o1 (by decide), shaped_of_ok o2 (by decide), ?_⟩
  rw [eqv_toPy _ _ _ _ o1 o2]
  exact k _ H S F _ (.refl r0) (.bl _) q⟩
/-! is None -/
def isNon : D → Bool
  | .non => true
  | _ => false
def rdIsN : RD := fun x y S Q => y = .non ∧ Q (.bl (isNon x)) S
def rdNotN : RD := fun x y S Q => y = .non ∧ Q (.bl (!isNon x)) S
theorem isNon_v {K : PySem.W.Frag} {F : Hp} {v : V} {d : D} (dn : Den K F v d) : decide (v = V.non) = isNon d := by
  cases dn <;> simp [isNon]
theorem o_isN : Op2 X (compareOp .Is) rdIsN := ⟨_, op_isN, fun H S F x y dx dy Qd Q r0 nx ny q k => by
  obtain ⟨rfl, q⟩ := q
  refine ⟨den_non ny, ?_⟩
  rw [isNon_v nx]
  exact k _ H S F _ (.refl r0) (.bl _) q⟩
theorem o_notN : Op2 X (compareOp .IsNot) rdNotN := ⟨_, op_notN, fun H S F x y dx dy Qd Q r0 nx ny q k => by
  obtain ⟨rfl, q⟩ := q
  refine ⟨den_non ny, ?_⟩
  rw [isNon_v nx]
  exact k _ H S F _ (.refl r0) (.bl _) q⟩
/-! in, not in -/
def rdInG (neg : Bool) : RD := fun x y S Q => match vw S y with
  | .lst ds => okD 60 x = true ∧ okDs 59 ds = true ∧ Q (.bl (neg ^^ ds.any fun z => eqD z x)) S
  | .tup ds => flatD x = true ∧ ds.all flatD = true ∧ Q (.bl (neg ^^ ds.any fun z => eqD z x)) S
  | .str z => ∃ c, x = .str ⟨#[c]⟩ ∧ Q (.bl (neg ^^ decide (c ∈ z.cps.toList))) S
  | .dct kds => ∃ k, keyD x = some k ∧ Q (.bl (neg ^^ (kget kds k).isSome)) S
  | _ => False
abbrev rdIn : RD := rdInG false
abbrev rdNotIn : RD := rdInG true
theorem flat_v {K : PySem.W.Frag} {F : Hp} {v : V} {d : D} (dn : Den K F v d) (h : flatD d = true) : flatV v = true := by
  cases dn <;> first | rfl | (simp [flatD] at h)
theorem flats_v {K : PySem.W.Frag} {F : Hp} : ∀ {vs : List V} {ds : List D}, Dens K F vs ds → ds.all flatD = true → vs.all flatV = true
  | _, _, .nil, _ => rfl
  | _, _, .cons h t, q => by
    rw [List.all_cons, Bool.and_eq_true] at q ⊢
    exact ⟨flat_v h q.1, flats_v t q.2⟩
theorem eqV_v {K : PySem.W.Frag} {F : Hp} {v u : V} {d e : D} (dn : Den K F v d) (dm : Den K F u e) (h : flatD d = true) (h' : flatD e = true) : eqV v u = eqD d e := by
  cases dn <;> (try (simp [flatD] at h; done)) <;> cases dm <;> (try (simp [flatD] at h'; done)) <;> simp [eqV, eqD]
theorem inV_v {K : PySem.W.Frag} {F : Hp} {u : V} {e : D} (dm : Den K F u e) (h' : flatD e = true) : ∀ {vs : List V} {ds : List D}, Dens K F vs ds → ds.all flatD = true → inV u vs = ds.any fun z => eqD z e
  | _, _, .nil, _ => rfl
  | _, _, .cons h t, q => by
    rw [List.all_cons, Bool.and_eq_true] at q
    have ih := inV_v dm h' t q.2
    unfold inV at ih ⊢
    rw [List.any_cons, List.any_cons, eqV_v h dm q.1 h', ih]
def rDin (neg : Bool) : R2 := fun y x H Q => ∃ a ov, x = .ref a ∧ DGet H a y ov ∧ Q (.bl (neg ^^ ov.isSome)) H
theorem op_din (hu : X.A.units + 1 < cLine) : OpR X (compareOp .In) (rDin false) := by
  intro pins s σ H x y v u Q I rx ry h
  obtain ⟨a, ov, rfl, g, q⟩ := h
  cases ry
  exact d_in hu I g rx fun s3 I3 => ⟨.bl _, H, I3, rfl, by simpa using q⟩
theorem op_dnotin (hu : X.A.units + 1 < cLine) : OpR X (compareOp .NotIn) (rDin true) := by
  intro pins s σ H x y v u Q I rx ry h
  obtain ⟨a, ov, rfl, g, q⟩ := h
  cases ry
  exact d_notIn hu I g rx fun s3 I3 => ⟨.bl _, H, I3, rfl, by simpa using q⟩
theorem anyPy {d : D} : ∀ {ds : List D} {n m : Nat}, okDs n ds = true → okD m d = true → ((toPys ds).any fun z => PyData.eqv z (toPy d)) = ds.any fun z => eqD z d
  | [], _, _, _, _ => by simp [toPys]
  | x :: xs, n, m, h, h' => by
    rw [okDs, Bool.and_eq_true] at h
    simp only [toPys, List.any_cons, eqv_toPy _ _ _ _ h.1 h', anyPy h.2 h']
theorem in_lift {neg : Bool} {r1 r2 r3 r4 : R2} (e1 : r1 = if neg then rNotInD X.K else rInD X.K) (e2 : r2 = rIn X.K neg) (e3 : r3 = fun x y H Q => ∃ (c : Nat) (z : Str), x = .str ⟨#[c]⟩ ∧ y = .str z ∧ Q (.bl (neg ^^ decide (c ∈ z.cps.toList))) H) (e4 : r4 = rDin neg) :
    Lift2 X.K (fun x y H Q => (r1 x y H Q ∨ r2 x y H Q) ∨ (r3 x y H Q ∨ r4 x y H Q)) (rdInG neg) := by
  subst e1 e2 e3 e4
  intro H S F x y dx dy Qd Q r0 nx ny q k
  unfold rdInG at q
  split at q
  · rename_i ds e
    obtain ⟨o1, o2, q⟩ := q
    obtain ⟨a, vs, rfl, h1, d1⟩ := vw_lst r0 ny e
    have o3 : okD 60 (.lst ds) = true := by rw [okD]; exact o2
    have dp : Dp X.K H (.ref a) (.list (toPys ds)) := .lst (.of h1) (dps_of r0.same d1 o2)
    have sh : SeqAt.shaped (.list (toPys ds)) = true := by
      have := shaped_of_ok o3 (by decide)
      simpa [toPy] using this
    left; left
    cases neg with
    | false => exact ⟨_, _, dp_of r0.same nx o1, dp, shaped_of_ok o1 (by decide), sh, by rw [anyPy o2 o1]; exact k _ H S F _ (.refl r0) (.bl _) (by simpa using q)⟩
    | true => exact ⟨_, _, dp_of r0.same nx o1, dp, shaped_of_ok o1 (by decide), sh, by rw [anyPy o2 o1]; exact k _ H S F _ (.refl r0) (.bl _) (by simpa using q)⟩
  · rename_i ds e
    obtain ⟨o1, o2, q⟩ := q
    obtain ⟨a, vs, rfl, h1, d1, _⟩ := vw_tup r0 ny e
    left; right
    refine ⟨a, vs, rfl, .inr h1, flat_v nx o1, flats_v d1 o2, ?_⟩
    rw [inV_v nx o1 d1 o2]
    cases neg <;> exact k _ H S F _ (.refl r0) (.bl _) (by simpa using q)
  · rename_i z e
    obtain ⟨c, rfl, q⟩ := q
    right; left
    exact ⟨c, z, den_str nx, vw_str ny e, k _ H S F _ (.refl r0) (.bl _) q⟩
  · rename_i kds e
    obtain ⟨ky, e1, q⟩ := q
    obtain ⟨a, kvs, rfl, h1, d1, _⟩ := vw_dct r0 ny e
    right; right
    refine ⟨a, _, rfl, .inl ⟨kvs, ky, h1, keyD_v nx e1, rfl⟩, ?_⟩
    rw [d1.isSome]
    exact k _ H S F _ (.refl r0) (.bl _) q
  · exact q.elim
theorem o_in (hu : X.A.units + 65 < cLine) : Op2 X (compareOp .In) rdIn :=
  ⟨_, ((op_inD hu).or op_in_seq).or ((op_in_sign (X := X)).or (op_din (by omega))), in_lift rfl rfl (by funext x y H Q; simp) rfl⟩
theorem o_notIn (hu : X.A.units + 65 < cLine) : Op2 X (compareOp .NotIn) rdNotIn :=
  ⟨_, ((op_notInD hu).or op_notIn_seq).or ((op_notIn_sign (X := X)).or (op_dnotin (by omega))), in_lift rfl rfl (by funext x y H Q; simp) rfl⟩
end
end DL

set_option Elab.async false
set_option linter.all false
set_option autoImplicit false
set_option maxRecDepth 100000
set_option maxHeartbeats 2000000
/-! DL5: subscripts, slices, built-ins, methods, dicts by data. -/
namespace DL
open PySem PySem.Spec L2

section
variable {K : PySem.W.Frag} {F : Hp}
theorem Dens.atI {vs : List V} {ds : List D} {i : Int} {d : D} (h : Dens K F vs ds) (e : L2.atI ds i = some d) : ∃ v, L2.atI vs i = some v ∧ Den K F v d := by
  unfold L2.atI at e ⊢
  rw [h.length]
  cases q : ixN ds.length i with
  | none => rw [q] at e; cases e
  | some j =>
    rw [q] at e
    exact h.get (i := j) e
theorem atI_map {α β : Type} (f : α → β) {xs : List α} {i : Int} {x : α} (e : L2.atI xs i = some x) : L2.atI (xs.map f) i = some (f x) := by
  unfold L2.atI at e ⊢
  rw [List.length_map]
  cases q : ixN xs.length i with
  | none => rw [q] at e; cases e
  | some j =>
    rw [q] at e
    have e' : xs[j]? = some x := e
    show (xs.map f)[j]? = some (f x)
    rw [List.getElem?_map, e']
    rfl
def cutD (xs : List D) (lo hi : Option Int) : List D := (xs.drop (HT.sIx xs.length 0 lo)).take (HT.sIx xs.length xs.length hi - HT.sIx xs.length 0 lo)
theorem Dens.cut {vs : List V} {ds : List D} (h : Dens K F vs ds) (lo hi : Option Int) : Dens K F (cutV vs lo hi) (cutD ds lo hi) := by
  unfold cutV cutD
  rw [h.length]
  exact (h.drop _).take _
theorem cutD_length (xs : List D) (lo hi : Option Int) : (cutD xs lo hi).length ≤ xs.length := by
  unfold cutD
  rw [List.length_take, List.length_drop]
  omega
end

/-! ### subscripts -/
structure IxD (X : Cx) (rd : RD) : Prop where
  ex : ∃ r, IxR X r ∧ Lift2 X.K r rd
def rIxK : R2 := fun x y H Q => ∃ a v, x = .ref a ∧ DGet H a y (some v) ∧ Q v H
section
variable {X : Cx} {W : WX} {a b e : Expr} {ta tb te : DE} {pos : Pos}
theorem dx_ix {rd : RD} (hr : IxD X rd) (ha : DX X W a ta) (hb : DX X W b tb) (hs : PlainIx b) : DX X W (.Subscript a b pos) (dOp rd ta tb) := by
  obtain ⟨r, h1, h2⟩ := hr.ex
  exact (pe_ix h1 ha hb hs).weaken fun σ H Q q => two h2 q
open PyProof.Rows in
theorem ix_dict (hu : X.A.units + 1 < cLine) : IxR X rIxK := by
  intro value slice pins s σ H x y v u Q I rx ry h hs
  obtain ⟨a, w, rfl, g, q⟩ := h
  cases rx
  have hT := dict_typeIs I g
  unfold PyProof.Rows.subscriptTail
  refine wpAny_bind ?_
  rw [getitemInPython_of_ne hT.not_modules]
  refine wpAny_bind (wpAny_specialOf hT PySem.F.slot_dict_getitem.lookup ?_)
  have fin : wpAny (model X.prog X.w) X.A (subscripted slice false (.ref a) u) (fun r s₃ => wpAny (model X.prog X.w) X.A (letTemporaryGo value (.ref a) r >>= fun _ => pure r) (EP X pins σ Q) X.xe s₃) X.xe s := by
    rw [hs]
    exact wpAny_operating (d_getItem hu I g ry fun w' s3 I3 rw' => wpAny_bind (wpAny_letTemporaryGo (wpAny_pure ⟨w, H, I3, rw', q⟩)))
  first
    | exact wpAny_pure (wpAny_bind fin)
    | exact wpAny_bind (wpAny_pure (wpAny_bind fin))
    | exact wpAny_bind fin
/-- x[y] -/
def rdIx : RD := fun x y S Q => match vw S x with
  | .lst ds => ∃ i z, y = .int i ∧ L2.atI ds i = some z ∧ Q z S
  | .tup ds => ∃ i z, y = .int i ∧ L2.atI ds i = some z ∧ Q z S
  | .scr ns => ∃ i n, y = .int i ∧ L2.atI ns i = some n ∧ Q (.int n) S
  | .str z => z.length ≤ 1000000 ∧ ∃ i c, y = .int i ∧ L2.atI z.cps.toList i = some c ∧ Q (.str ⟨#[c]⟩) S
  | .dct kds => ∃ k z, keyD y = some k ∧ kget kds k = some z ∧ Q z S
  | _ => False
theorem i_ix (hu : X.A.units + 1 < cLine) : IxD X rdIx := by
  refine ⟨_, ((ix_list (X := X)).or ix_tup).or (ix_str.or (ix_dict hu)), fun H S F x y dx dy Qd Q r0 nx ny q k => ?_⟩
  unfold rdIx at q
  split at q
  · rename_i ds e
    obtain ⟨i, z, rfl, e2, q⟩ := q
    obtain ⟨a, vs, rfl, h1, d1⟩ := vw_lst r0 nx e
    obtain ⟨v, e3, n3⟩ := d1.atI e2
    exact .inl (.inl ⟨a, vs, i, v, rfl, den_int ny, .of h1, e3, k _ H S F _ (.refl r0) n3 q⟩)
  · rename_i ds e
    obtain ⟨i, z, rfl, e2, q⟩ := q
    obtain ⟨a, vs, rfl, h1, d1, _⟩ := vw_tup r0 nx e
    obtain ⟨v, e3, n3⟩ := d1.atI e2
    exact .inl (.inr ⟨a, vs, i, v, rfl, den_int ny, h1, e3, k _ H S F _ (.refl r0) n3 q⟩)
  · rename_i ns e
    obtain ⟨i, n, rfl, e2, q⟩ := q
    obtain ⟨a, rfl, h1, _⟩ := vw_scr r0 nx e
    exact .inl (.inl ⟨a, _, i, .int n, rfl, den_int ny, h1, atI_map V.int e2, k _ H S F _ (.refl r0) (.int n) q⟩)
  · rename_i z e
    obtain ⟨hl, i, c, rfl, e2, q⟩ := q
    exact .inr (.inl ⟨z, i, c, vw_str nx e, den_int ny, le_line hl, e2, k _ H S F _ (.refl r0) (.str _) q⟩)
  · rename_i kds e
    obtain ⟨ky, z, e1, e2, q⟩ := q
    obtain ⟨a, kvs, rfl, h1, d1, _⟩ := vw_dct r0 nx e
    obtain ⟨v, e3, n3⟩ := d1.getS e2
    exact .inr (.inr ⟨a, v, rfl, .inl ⟨kvs, ky, h1, keyD_v ny e1, e3.symm⟩, k _ H S F _ (.refl r0) n3 q⟩)
  · exact q.elim

/-! ### slices -/
abbrev DOt := Rho → IS → (Option Int → IS → Prop) → XKd → Prop
def dNoPart : DOt := fun _ S Q _ => Q none S
def dPart (t : DE) : DOt := fun ρ S Q E => t ρ S (fun x S1 => ∃ i, x = .int i ∧ Q (some i) S1) E
def cTO (K : PySem.W.Frag) (W : WX) (t : DOt) : TO := fun σ H Q => ∃ ρ S F Qd Ex, Rel K σ H ρ S F ∧ t ρ S Qd Ex ∧ (∀ o H' S' F', After K H S F H' S' F' → Qd o S' → Q o H') ∧ WOk K W σ H S F Ex
abbrev DO (X : Cx) (W : WX) (e : Option Expr) (t : DOt) : Prop := PO X e (cTO X.K W t)
theorem do_none : DO X W none dNoPart := ⟨fun pins s σ H Q I q => by
  obtain ⟨ρ, S, F, Qd, Ex, R, q1, kq, kw⟩ := q
  exact po_none.run pins s σ H Q I (kq none H S F (.refl R.r0) q1)⟩
theorem do_some (h : DX X W e te) : DO X W (some e) (dPart te) := ⟨fun pins s σ H Q I q => by
  obtain ⟨ρ, S, F, Qd, Ex, R, q1, kq, kw⟩ := q
  refine (po_some h).run pins s σ H Q I ⟨ρ, S, F, _, Ex, R, q1, fun v H1 S1 F1 d A1 dn q2 => ?_, kw⟩
  obtain ⟨i, rfl, q2⟩ := q2
  exact ⟨i, den_int dn, kq _ H1 S1 F1 A1 q2⟩⟩
/-- x[lo:hi] -/
def rdSl : D → Option Int → Option Int → IS → DK → Prop := fun x lo hi S Q => match vw S x with
  | .lst ds => Q (.lst (cutD ds lo hi)) S
  | .tup ds => Q (.tup (cutD ds lo hi)) S
  | .scr ns => Q (.lst (cutD (ns.map .int) lo hi)) S
  | .str z => z.length ≤ 1000000 ∧ Q (.str (cutS z lo hi)) S
  | _ => False
def dSl (te : DE) (tl th : DOt) : DE := fun ρ S Q E => te ρ S (fun x S1 => tl ρ S1 (fun l S2 => th ρ S2 (fun u S3 => rdSl x l u S3 Q) E) E) E
theorem dx_slice {lo hi : Option Expr} {tl th : DOt} {p2 : Pos} (he : DX X W e te) (hl : DO X W lo tl) (hu : DO X W hi th) : DX X W (.Subscript e (.Slice lo hi none p2) pos) (dSl te tl th) :=
  (pe_slice ((sl_list (X := X)).or (sl_tupA.or sl_str)) he hl hu).weaken fun σ H Q q => by
    obtain ⟨ρ, S, F, Qd, Ex, R, q1, kq, kw⟩ := q
    refine ⟨ρ, S, F, _, Ex, R, q1, fun v H1 S1 F1 d A1 dn q2 => ?_, kw⟩
    refine ⟨ρ, S1, F1, _, Ex, R.after A1, q2, fun l H2 S2 F2 A2 q3 => ?_, kw.after A1⟩
    refine ⟨ρ, S2, F2, _, Ex, R.after (A1.trans A2), q3, fun u H3 S3 F3 A3 q4 => ?_, kw.after (A1.trans A2)⟩
    have r0 := A3.r0
    have nx := dn.mono (A2.trans A3).same
    have k := kq.after (A1.trans (A2.trans A3))
    unfold rdSl at q4
    split at q4
    · rename_i ds e
      obtain ⟨a, vs, rfl, h1, d1, hl⟩ := vw_lst' r0 nx e
      refine .inl ⟨a, vs, rfl, .of h1, fun p hp => ?_⟩
      have A := r0.newF (o := .lst (cutV vs l u)) hp
      exact k _ _ _ _ _ A (.lst upd_same ((d1.cut l u).mono A.same) (Nat.le_trans (cutD_length _ _ _) hl)) q4
    · rename_i ds e
      obtain ⟨a, vs, rfl, h1, d1, hl⟩ := vw_tup r0 nx e
      refine .inr (.inl ⟨a, vs, rfl, h1, fun hw => ?_, fun _ p hp => ?_⟩)
      · have e2 : cutD ds l u = ds := by
          rw [d1.length] at hw
          unfold cutD
          rw [hw.1, hw.2, List.drop_zero, Nat.sub_zero, List.take_length]
        rw [e2] at q4
        have e3 : d = .tup ds := by
          cases d with
          | tup _ => cases e; rfl
          | ref b => rw [vw] at e; cases z : S3 b with
            | none => rw [z] at e; cases e
            | some i => rw [z] at e; cases i <;> cases e
          | _ => cases e
        subst e3
        exact k _ _ _ _ _ (.refl r0) nx q4
      · have A := r0.newF (o := .tup (cutV vs l u)) hp
        exact k _ _ _ _ _ A (.tup (.inl upd_same) ((d1.cut l u).mono A.same) (Nat.le_trans (cutD_length _ _ _) hl)) q4
    · rename_i ns e
      obtain ⟨a, rfl, h1, hl⟩ := vw_scr r0 nx e
      refine .inl ⟨a, _, rfl, h1, fun p hp => ?_⟩
      have A := r0.newF (o := .lst (cutV (ns.map V.int) l u)) hp
      exact k _ _ _ _ _ A (.lst upd_same (((dens_ints ns).cut l u).mono A.same) (Nat.le_trans (cutD_length _ _ _) (by rw [List.length_map]; exact hl))) q4
    · rename_i z e
      exact .inr (.inr ⟨z, vw_str nx e, le_line q4.1, k _ _ _ _ _ (.refl r0) (.str _) q4.2⟩)
    · exact q4.elim
end

/-! ### built-ins -/
section
variable {X : Cx}
theorem CallR.or {f : Value} {r r' : List V → Hp → VK → Prop} (h : CallR X f r) (h' : CallR X f r') : CallR X f (fun xs H Q => r xs H Q ∨ r' xs H Q) := fun pins s σ H xs us Q I r q => q.elim (h pins s σ H xs us Q I r) (h' pins s σ H xs us Q I r)
theorem CallD.or {f : Value} {rd rd' u : RDs} (h : CallD X f rd) (h' : CallD X f rd') (w : ∀ ds S Q, u ds S Q → rd ds S Q ∨ rd' ds S Q) : CallD X f u := by
  obtain ⟨r, h1, h2⟩ := h.ex
  obtain ⟨r', h1', h2'⟩ := h'.ex
  exact ⟨_, CallR.or h1 h1', fun H S F vs ds Qd Q r0 dn q k => (w _ _ _ q).elim (fun z => .inl (h2 H S F vs ds Qd Q r0 dn z k)) fun z => .inr (h2' H S F vs ds Qd Q r0 dn z k)⟩
/-- len -/
def lenD : D → Option Int
  | .lst ds => some ds.length
  | .tup ds => some ds.length
  | .scr ns => some ns.length
  | .str x => if x.length ≤ 1000000 then some x.length else none
  | .dct k => some k.length
  | _ => none
def rdLen : RDs := fun ds S Q => ∃ x n, ds = [x] ∧ lenD (vw S x) = some n ∧ Q (.int n) S
def rLenDk : List V → Hp → VK → Prop := fun xs H Q => ∃ a kvs, xs = [V.ref a] ∧ Rd H a (.dK kvs) ∧ Q (.int kvs.length) H
theorem cr_lenDk : CallR X (.builtin "len") rLenDk := by
  intro pins s σ H xs us Q I r h
  obtain ⟨a, kvs, rfl, ha, q⟩ := h
  obtain ⟨u, rfl, ru⟩ := vals1 r
  cases ru
  exact d_len I ha fun t s' I' => ⟨.int kvs.length, H, I', ⟨t, rfl⟩, q⟩
theorem c_len : CallD X (.builtin "len") rdLen := by
  refine ⟨_, CallR.or (call_len (X := X)) cr_lenDk, fun H S F vs ds Qd Q r0 dn q k => ?_⟩
  obtain ⟨x, n, rfl, e, q⟩ := q
  obtain ⟨v, rfl, dn1⟩ := dens1 dn
  clear dn
  have dn := dn1
  generalize hv : vw S x = y at e
  have kk : ∀ i : Int, i = n → Q (.int i) H := fun i ei => by subst ei; exact k _ H S F _ (.refl r0) (.int _) q
  cases y with
  | lst ds =>
    obtain ⟨a, vs, rfl, h1, d1⟩ := vw_lst r0 dn hv
    exact .inl ⟨_, vs.length, rfl, .inl ⟨vs, .of h1, rfl⟩, kk _ (by rw [d1.length]; exact Option.some.inj e)⟩
  | tup ds =>
    obtain ⟨a, vs, rfl, h1, d1, _⟩ := vw_tup r0 dn hv
    exact .inl ⟨_, vs.length, rfl, .inr ⟨vs, h1, rfl⟩, kk _ (by rw [d1.length]; exact Option.some.inj e)⟩
  | scr ns =>
    obtain ⟨a, rfl, h1, _⟩ := vw_scr r0 dn hv
    exact .inl ⟨_, _, rfl, .inl ⟨_, h1, rfl⟩, kk _ (by rw [List.length_map]; exact Option.some.inj e)⟩
  | str z =>
    cases vw_str dn hv
    rw [lenD] at e
    split at e
    · rename_i hl
      exact .inl ⟨_, z.length, rfl, ⟨le_line hl, rfl⟩, kk _ (Option.some.inj e)⟩
    · cases e
  | dct kds =>
    obtain ⟨a, kvs, rfl, h1, d1, _⟩ := vw_dct r0 dn hv
    exact .inr ⟨a, kvs, rfl, h1, kk _ (by rw [d1.length]; exact Option.some.inj e)⟩
  | _ => cases e
/-- isinstance, built-in types -/
def tnD : D → Option String
  | .non => some "NoneType"
  | .bl _ => some "bool"
  | .int _ => some "int"
  | .str _ => some "str"
  | .tup _ => some "tuple"
  | .lst _ => some "list"
  | .scr _ => some "list"
  | .dct _ => some "dict"
  | _ => none
def isA (tn T : String) : Bool := tn == T || (tn == "bool" && T == "int")
def tyNames : List String := ["NoneType", "bool", "int", "str", "tuple", "list", "dict"]
theorem kitB_all : ∀ tn ∈ tyNames, ∀ T ∈ ["bool", "int", "str", "tuple", "list", "dict"], kitB tn T = some (isA tn T) := by decide +kernel
theorem tnD_mem {d : D} {tn : String} (h : tnD d = some tn) : tn ∈ tyNames := by
  cases d <;> cases h <;> decide
theorem tyx_of {K : PySem.W.Frag} {H : Hp} {S : IS} {F : Hp} {v : V} {d : D} {tn : String} (r : Rel0 K H S F) (dn : Den K F v d) (h : tnD (vw S d) = some tn) : TyX K H v (.type tn) := by
  have lst : ∀ {a xs}, SqL K H a xs → TyX K H (.ref a) (.type "list") := fun {a xs} q => by
    rcases q with (q | ⟨o, q⟩) | ⟨o, _, _, q, c, _⟩
    · exact .base (.lst q)
    · exact .base (.frz q)
    · exact .kList q c
  have tup : ∀ {a xs}, TpAt K F a xs → TyX K H (.ref a) (.type "tuple") := fun {a xs} q => by
    rcases q with q | ⟨o, _, _, q, c, _⟩
    · exact .base (.tup (r.same _ _ q))
    · exact .kTuple q c
  have dct : ∀ {a kvs}, Rd H a (.dK kvs) → TyX K H (.ref a) (.type "dict") := fun {a kvs} q => by
    rcases q with q | ⟨o, q⟩
    · exact .base (.dK q)
    · exact .fDict q
  cases dn with
  | non => cases h; exact .base .non
  | bl b => cases h; exact .base (.bl b)
  | int b => cases h; exact .base (.int b)
  | str b => cases h; exact .base (.str b)
  | ty b => cases h
  | tup h1 _ _ => cases h; exact tup h1
  | lst h1 _ _ => cases h; exact lst (.of (r.same _ _ h1))
  | scr h1 _ => cases h; exact lst (r.same.seq h1)
  | dct h1 _ _ _ => cases h; exact .fDict (r.same _ _ h1)
  | dtt h1 _ _ _ => cases h
  | ref a =>
    rw [vw] at h
    cases q : S a with
    | none => rw [q] at h; cases h
    | some i =>
      rw [q] at h
      obtain ⟨o, h1, h2⟩ := r.io a _ q
      cases i with
      | lst ds => cases h; cases o <;> first | exact h2.elim | exact lst (.of h1)
      | dct ds => cases h; cases o <;> first | exact h2.elim | exact dct (.inl h1)
      | ins _ _ _ => cases h
      | raw _ => cases h
def rdIsi : RDs := fun ds S Q => ∃ x T tn, ds = [x, .ty T] ∧ T ∈ ["bool", "int", "str", "tuple", "list", "dict"] ∧ tnD (vw S x) = some tn ∧ Q (.bl (isA tn T)) S
def rdIsi2 : RDs := fun ds S Q => ∃ x T U tn, ds = [x, .tup [.ty T, .ty U]] ∧ T ∈ ["bool", "int", "str", "tuple", "list", "dict"] ∧ U ∈ ["bool", "int", "str", "tuple", "list", "dict"] ∧ tnD (vw S x) = some tn ∧ Q (.bl (isA tn T || isA tn U)) S
theorem den_ty {K : PySem.W.Frag} {F : Hp} {v : V} {n : String} (h : Den K F v (.ty n)) : v = .ty n := by cases h; rfl
theorem c_isi : CallD X (.builtin "isinstance") rdIsi := by
  refine ⟨_, call_isi, fun H S F vs ds Qd Q r0 dn q k => ?_⟩
  obtain ⟨x, T, tn, rfl, hT, e, q⟩ := q
  obtain ⟨v, u, rfl, d1, d2⟩ := dens2 dn
  cases den_ty d2
  exact ⟨v, .ty T, .type tn, .type T, _, rfl, .ty T, tyx_of r0 d1 e, kit_ty (kitB_all tn (tnD_mem e) T hT), k _ H S F _ (.refl r0) (.bl _) q⟩
/-- all, any of truths -/
theorem dens_bls {K : PySem.W.Frag} {F : Hp} : ∀ {vs : List V} {bs : List Bool}, Dens K F vs (bs.map .bl) → vs = bs.map V.bl
  | _, [], h => by cases h; rfl
  | _, b :: bs, h => by
    cases h with
    | cons h t => rw [den_bl h, dens_bls t]; rfl
theorem dens_intsV {K : PySem.W.Frag} {F : Hp} : ∀ {vs : List V} {bs : List Int}, Dens K F vs (bs.map .int) → vs = bs.map V.int
  | _, [], h => by cases h; rfl
  | _, b :: bs, h => by
    cases h with
    | cons h t => rw [den_int h, dens_intsV t]; rfl
theorem dens_strsV {K : PySem.W.Frag} {F : Hp} : ∀ {vs : List V} {bs : List Str}, Dens K F vs (bs.map .str) → vs = bs.map V.str
  | _, [], h => by cases h; rfl
  | _, b :: bs, h => by
    cases h with
    | cons h t => rw [den_str h, dens_strsV t]; rfl
def rdAll : RDs := fun ds S Q => ∃ (x : D) (bs : List Bool), ds = [x] ∧ vw S x = .lst (bs.map .bl) ∧ Q (.bl (bs.all id)) S
def rdAny : RDs := fun ds S Q => ∃ (x : D) (bs : List Bool), ds = [x] ∧ vw S x = .lst (bs.map .bl) ∧ Q (.bl (bs.any id)) S
def rdSum : RDs := fun ds S Q => ∃ (x : D) (ns : List Int), ds = [x] ∧ vw S x = .lst (ns.map .int) ∧ Q (.int ns.sum) S
def rdMax : RDs := fun ds S Q => ∃ (x : D) (ns : List Int), ds = [x] ∧ vw S x = .lst (ns.map .int) ∧ 0 < ns.length ∧ ∀ m, m ∈ ns → (∀ y, y ∈ ns → y ≤ m) → Q (.int m) S
def rdMin : RDs := fun ds S Q => ∃ (x : D) (ns : List Int), ds = [x] ∧ vw S x = .lst (ns.map .int) ∧ 0 < ns.length ∧ ∀ m, m ∈ ns → (∀ y, y ∈ ns → m ≤ y) → Q (.int m) S
theorem c_all (hc : X.calm = true) : CallD X (.builtin "all") rdAll := ⟨_, cr_all hc, fun H S F vs ds Qd Q r0 dn q k => by
  obtain ⟨x, bs, rfl, e, q⟩ := q
  obtain ⟨v, rfl, d1⟩ := dens1 dn
  obtain ⟨a, us, rfl, h1, d2⟩ := vw_lst r0 d1 e
  cases dens_bls d2
  exact ⟨a, bs, rfl, .of h1, k _ H S F _ (.refl r0) (.bl _) q⟩⟩
theorem c_any (hc : X.calm = true) : CallD X (.builtin "any") rdAny := ⟨_, cr_any hc, fun H S F vs ds Qd Q r0 dn q k => by
  obtain ⟨x, bs, rfl, e, q⟩ := q
  obtain ⟨v, rfl, d1⟩ := dens1 dn
  obtain ⟨a, us, rfl, h1, d2⟩ := vw_lst r0 d1 e
  cases dens_bls d2
  exact ⟨a, bs, rfl, .of h1, k _ H S F _ (.refl r0) (.bl _) q⟩⟩
theorem c_sum (hc : X.calm = true) : CallD X (.builtin "sum") rdSum := ⟨_, cr_sum hc, fun H S F vs ds Qd Q r0 dn q k => by
  obtain ⟨x, bs, rfl, e, q⟩ := q
  obtain ⟨v, rfl, d1⟩ := dens1 dn
  obtain ⟨a, us, rfl, h1, d2⟩ := vw_lst r0 d1 e
  cases dens_intsV d2
  exact ⟨a, bs, rfl, .of h1, k _ H S F _ (.refl r0) (.int _) q⟩⟩
theorem c_max1 (hc : X.calm = true) : CallD X (.builtin "max") rdMax := ⟨_, cr_max hc, fun H S F vs ds Qd Q r0 dn q k => by
  obtain ⟨x, bs, rfl, e, hl, q⟩ := q
  obtain ⟨v, rfl, d1⟩ := dens1 dn
  obtain ⟨a, us, rfl, h1, d2⟩ := vw_lst r0 d1 e
  cases dens_intsV d2
  exact ⟨a, bs, rfl, .of h1, hl, fun m hm hy => k _ H S F _ (.refl r0) (.int _) (q m hm hy)⟩⟩
theorem c_min1 (hc : X.calm = true) : CallD X (.builtin "min") rdMin := ⟨_, cr_min hc, fun H S F vs ds Qd Q r0 dn q k => by
  obtain ⟨x, bs, rfl, e, hl, q⟩ := q
  obtain ⟨v, rfl, d1⟩ := dens1 dn
  obtain ⟨a, us, rfl, h1, d2⟩ := vw_lst r0 d1 e
  cases dens_intsV d2
  exact ⟨a, bs, rfl, .of h1, hl, fun m hm hy => k _ H S F _ (.refl r0) (.int _) (q m hm hy)⟩⟩
def rdMax2 : RDs := fun ds S Q => ∃ i j, ds = [.int i, .int j] ∧ Q (.int (if j > i then j else i)) S
def rdMin2 : RDs := fun ds S Q => ∃ i j, ds = [.int i, .int j] ∧ Q (.int (if j < i then j else i)) S
theorem c_max2 (hc : X.calm = true) : CallD X (.builtin "max") rdMax2 := ⟨_, call_max2 hc, fun H S F vs ds Qd Q r0 dn q k => by
  obtain ⟨i, j, rfl, q⟩ := q
  obtain ⟨v, u, rfl, d1, d2⟩ := dens2 dn
  cases den_int d1
  cases den_int d2
  exact ⟨i, j, rfl, k _ H S F _ (.refl r0) (.int _) q⟩⟩
theorem c_min2 (hc : X.calm = true) : CallD X (.builtin "min") rdMin2 := ⟨_, call_min2 hc, fun H S F vs ds Qd Q r0 dn q k => by
  obtain ⟨i, j, rfl, q⟩ := q
  obtain ⟨v, u, rfl, d1, d2⟩ := dens2 dn
  cases den_int d1
  cases den_int d2
  exact ⟨i, j, rfl, k _ H S F _ (.refl r0) (.int _) q⟩⟩
def rdAbs : RDs := fun ds S Q => ∃ i, ds = [.int i] ∧ Q (.int (if i < 0 then -i else i)) S
theorem c_abs : CallD X (.builtin "abs") rdAbs := ⟨_, call_abs, fun H S F vs ds Qd Q r0 dn q k => by
  obtain ⟨i, rfl, q⟩ := q
  obtain ⟨v, rfl, d1⟩ := dens1 dn
  cases den_int d1
  exact ⟨i, rfl, k _ H S F _ (.refl r0) (.int _) q⟩⟩
def rdInt : RDs := fun ds S Q => ∃ x, ds = [x] ∧ match x with
  | .int i => Q (.int i) S
  | .bl b => Q (.int (if b then 1 else 0)) S
  | _ => False
theorem c_int : CallD X (.type "int") rdInt := ⟨_, call_int1, fun H S F vs ds Qd Q r0 dn q k => by
  obtain ⟨x, rfl, q⟩ := q
  obtain ⟨v, rfl, d1⟩ := dens1 dn
  split at q
  · cases den_int d1
    exact .inl ⟨_, rfl, k _ H S F _ (.refl r0) (.int _) q⟩
  · cases den_bl d1
    exact .inr ⟨_, rfl, k _ H S F _ (.refl r0) (.int _) q⟩
  · exact q.elim⟩
/-- list(x), tuple(x) of a list or a tuple: frozen; with identity -/
def seqD : D → Option (List D)
  | .lst ds => some ds
  | .tup ds => some ds
  | _ => none
def rdList : RDs := fun ds S Q => ∃ x ys, ds = [x] ∧ seqD (vw S x) = some ys ∧ Q (.lst ys) S
def rdListI : RDs := fun ds S Q => ∃ x ys, ds = [x] ∧ seqD (vw S x) = some ys ∧ ∀ a, S a = none → Q (.ref a) (updS S a (.lst ys))
def rdTuple : RDs := fun ds S Q => ∃ x ys, ds = [x] ∧ seqD (vw S x) = some ys ∧ Q (.tup ys) S
theorem seq_at {K : PySem.W.Frag} {H : Hp} {S : IS} {F : Hp} {v : V} {d : D} {ys : List D} (r : Rel0 K H S F) (dn : Den K F v d) (e : seqD (vw S d) = some ys) : ∃ a vs, v = .ref a ∧ (SqL K H a vs ∨ SqT K H a vs ∧ d = .tup ys) ∧ Dens K F vs ys ∧ ys.length ≤ sizeLine := by
  generalize hv : vw S d = y at e
  cases y with
  | lst ds =>
    cases e
    obtain ⟨a, vs, rfl, h1, d1, hl⟩ := vw_lst' r dn hv
    exact ⟨a, vs, rfl, .inl (.of h1), d1, hl⟩
  | tup ds =>
    cases e
    obtain ⟨a, vs, rfl, h1, d1, hl⟩ := vw_tup r dn hv
    refine ⟨a, vs, rfl, .inr ⟨h1, ?_⟩, d1, hl⟩
    cases d with
    | tup _ => cases hv; rfl
    | ref b => rw [vw] at hv; cases z : S b with
      | none => rw [z] at hv; cases hv
      | some i => rw [z] at hv; cases i <;> cases hv
    | _ => cases hv
  | _ => cases e
theorem c_list : CallD X (.type "list") rdList := ⟨_, call_list_of, fun H S F vs ds Qd Q r0 dn q k => by
  obtain ⟨x, ys, rfl, e, q⟩ := q
  obtain ⟨v, rfl, d1⟩ := dens1 dn
  obtain ⟨a, us, rfl, h1, d2, hl⟩ := seq_at r0 d1 e
  refine ⟨a, us, rfl, h1.imp id (·.1), fun p hp => ?_⟩
  have A := r0.newF (o := .lst us) hp
  exact k _ _ _ _ _ A (.lst upd_same (d2.mono A.same) hl) q⟩
theorem c_listI : CallD X (.type "list") rdListI := ⟨_, call_list_of, fun H S F vs ds Qd Q r0 dn q k => by
  obtain ⟨x, ys, rfl, e, q⟩ := q
  obtain ⟨v, rfl, d1⟩ := dens1 dn
  obtain ⟨a, us, rfl, h1, d2, hl⟩ := seq_at r0 d1 e
  refine ⟨a, us, rfl, h1.imp id (·.1), fun p hp => ?_⟩
  have A := r0.newS (o := .lst us) (i := .lst ys) hp ⟨d2, hl⟩
  exact k _ _ _ _ _ A (.ref p) (q p (r0.noS hp))⟩
theorem c_tuple : CallD X (.type "tuple") rdTuple := ⟨_, call_tuple_of, fun H S F vs ds Qd Q r0 dn q k => by
  obtain ⟨x, ys, rfl, e, q⟩ := q
  obtain ⟨v, rfl, d1⟩ := dens1 dn
  obtain ⟨a, us, rfl, h1, d2, hl⟩ := seq_at r0 d1 e
  rcases h1 with h1 | ⟨h1, e2⟩
  · refine ⟨a, us, rfl, .inl ⟨h1, fun p hp => ?_⟩⟩
    have A := r0.newF (o := .tup us) hp
    exact k _ _ _ _ _ A (.tup (.inl upd_same) (d2.mono A.same) hl) q
  · subst e2
    exact ⟨a, us, rfl, .inr ⟨h1, k _ _ _ _ _ (.refl r0) d1 q⟩⟩⟩
end

/-! ### methods of built-in types -/
structure MthD (X : Cx) (id : String) (rd : D → List D → IS → DK → Prop) : Prop where
  ex : ∃ r, MtR X id r ∧ ∀ H S F x xs dx ds Qd Q, Rel0 X.K H S F → Den X.K F x dx → Dens X.K F xs ds → rd dx ds S Qd → KOk X.K H S F Qd Q → r x xs H Q
def tyD (T : String) (S : IS) (d : D) : Prop := match vw S d with
  | .str _ => T = "str"
  | .lst _ => T = "list"
  | .scr _ => T = "list"
  | _ => False
theorem tyV_of {K : PySem.W.Frag} {H : Hp} {S : IS} {F : Hp} {v : V} {d : D} {T : String} (r : Rel0 K H S F) (dn : Den K F v d) (h : tyD T S d) : tyV K T v H := by
  unfold tyD at h
  split at h
  · rename_i x e
    cases vw_str dn e
    exact h
  · rename_i ds e
    obtain ⟨a, vs, rfl, h1, _⟩ := vw_lst r dn e
    exact .inl ⟨h, _, .of h1⟩
  · rename_i ns e
    obtain ⟨a, rfl, h1, _⟩ := vw_scr r dn e
    exact .inl ⟨h, _, h1⟩
  · exact h.elim
def dBM (T : String) (rd : D → List D → IS → DK → Prop) (to : DE) (t : DAt) : DE := fun ρ S Q E => to ρ S (fun x S1 => tyD T S1 x ∧ t ρ S1 (fun xs S2 => rd x xs S2 Q) E) E
section
variable {X : Cx} {W : WX} {e o : Expr} {es : List Expr} {to : DE} {ta : DAt} {T id : String} {name : Str} {rd : D → List D → IS → DK → Prop} {apos cpos : Pos}
theorem bm_of {K : PySem.W.Frag} {r : V → List V → Hp → VK → Prop} (l : ∀ H S F x xs dx ds Qd Q, Rel0 K H S F → Den K F x dx → Dens K F xs ds → rd dx ds S Qd → KOk K H S F Qd Q → r x xs H Q) {σ : L2.St} {H : Hp} {Q : VK} (q : cTE K W (dBM T rd to ta) σ H Q) : tBM K T r (cTE K W to) (cTA K W ta) σ H Q := by
  obtain ⟨ρ, S, F, Qd, Ex, R, q1, kq, kw⟩ := q
  refine ⟨ρ, S, F, _, Ex, R, q1, fun v H1 S1 F1 d A1 dn q2 => ?_, kw⟩
  obtain ⟨ty, q2⟩ := q2
  refine ⟨tyV_of A1.r0 dn ty, ρ, S1, F1, _, Ex, R.after A1, q2, fun vs H2 S2 F2 ds A2 dn2 q3 => ?_, kw.after A1⟩
  exact l H2 S2 F2 v vs d ds Qd Q A2.r0 (dn.mono A2.same) dn2 q3 (kq.after (A1.trans A2))
theorem dx_bm (hm : MthD X id rd) (h : ∀ {r : V → List V → Hp → VK → Prop}, MtR X id r → PE X (.Call (.Attribute o name apos) (e :: es) [] cpos) (tBM X.K T r (cTE X.K W to) (cTA X.K W ta))) : DX X W (.Call (.Attribute o name apos) (e :: es) [] cpos) (dBM T rd to ta) := by
  obtain ⟨r, h1, h2⟩ := hm.ex
  exact (h h1).weaken fun σ H Q q => bm_of h2 q
/-- xs.append(x) -/
def rdAppend : D → List D → IS → DK → Prop := fun x xs S Q => ∃ a ds y, x = .ref a ∧ xs = [y] ∧ S a = some (.lst ds) ∧ ds.length < 1000000 ∧ Q .non (updS S a (.lst (ds ++ [y])))
theorem io_lst {K : PySem.W.Frag} {H : Hp} {S : IS} {F : Hp} {a : Addr} {ds : List D} (r : Rel0 K H S F) (h : S a = some (.lst ds)) : ∃ vs, H a = some (.lst vs) ∧ Dens K F vs ds ∧ ds.length ≤ sizeLine := by
  obtain ⟨o, h1, h2⟩ := r.io a _ h
  cases o <;> first | exact h2.elim | exact ⟨_, h1, h2.1, h2.2⟩
theorem io_dct {K : PySem.W.Frag} {H : Hp} {S : IS} {F : Hp} {a : Addr} {ds : List (Key × D)} (r : Rel0 K H S F) (h : S a = some (.dct ds)) : ∃ kvs, H a = some (.dK kvs) ∧ DenK K F kvs ds ∧ (ds.map (·.1)).Nodup ∧ ds.length ≤ sizeLine := by
  obtain ⟨o, h1, h2⟩ := r.io a _ h
  cases o <;> first | exact h2.elim | exact ⟨_, h1, h2.1, h2.2.1, h2.2.2⟩
theorem den_ref {K : PySem.W.Frag} {F : Hp} {v : V} {a : Addr} (h : Den K F v (.ref a)) : v = .ref a := by cases h; rfl
theorem m_append : MthD X "list.append" rdAppend := ⟨_, mt_append, fun H S F x xs dx ds Qd Q r0 nx nxs q k => by
  obtain ⟨a, ys, y, rfl, rfl, hs, hl, q⟩ := q
  obtain ⟨v, rfl, dv⟩ := dens1 nxs
  cases den_ref nx
  obtain ⟨vs, h1, d1, l1⟩ := io_lst r0 hs
  refine ⟨a, vs, v, rfl, rfl, h1, by rw [d1.length]; exact Nat.lt_of_lt_of_le hl (le_line (Nat.le_refl _)), ?_⟩
  have A := r0.chgS (o := .lst (vs ++ [v])) (i := .lst (ys ++ [y])) hs ⟨d1.append (.one dv), by rw [List.length_append]; exact le_line (Nat.succ_le_of_lt hl)⟩
  exact k _ _ _ _ _ A .non q⟩
/-- xs.pop(i) -/
def rdPopAt : D → List D → IS → DK → Prop := fun x xs S Q => ∃ a ds i j y, x = .ref a ∧ xs = [.int i] ∧ S a = some (.lst ds) ∧ ixN ds.length i = some j ∧ ds[j]? = some y ∧ Q y (updS S a (.lst (ds.eraseIdx j)))
theorem Dens.eraseIdx {K : PySem.W.Frag} {F : Hp} : ∀ {vs : List V} {ds : List D} (n : Nat), Dens K F vs ds → Dens K F (vs.eraseIdx n) (ds.eraseIdx n)
  | _, _, _, .nil => by simp only [List.eraseIdx_nil]; exact .nil
  | _, _, 0, .cons _ t => t
  | _, _, n + 1, .cons h t => .cons h (Dens.eraseIdx n t)
theorem m_popAt : MthD X "list.pop" rdPopAt := ⟨_, mt_popAt, fun H S F x xs dx ds Qd Q r0 nx nxs q k => by
  obtain ⟨a, ys, i, j, y, rfl, rfl, hs, hj, hy, q⟩ := q
  obtain ⟨v, rfl, dv⟩ := dens1 nxs
  cases den_ref nx
  cases den_int dv
  obtain ⟨vs, h1, d1, l1⟩ := io_lst r0 hs
  obtain ⟨v, hv, dv2⟩ := d1.get hy
  obtain ⟨z1, z2, z3, z4⟩ := ixN_seq hj
  have hl := line63
  refine ⟨a, vs, i, j, v, rfl, rfl, h1, by omega, by omega, by rw [d1.length]; exact z1, hv, ?_⟩
  have A := r0.chgS (o := .lst (vs.eraseIdx j)) (i := .lst (ys.eraseIdx j)) hs ⟨d1.eraseIdx j, Nat.le_trans (List.length_eraseIdx_le _ _) l1⟩
  exact k _ _ _ _ _ A dv2 q⟩
/-- sep.join(xs) -/
def rdJoin : D → List D → IS → DK → Prop := fun x xs S Q => ∃ a y, ∃ ys : List Str, x = .str a ∧ xs = [y] ∧ (vw S y = .lst (ys.map .str)) ∧ (ys.map (·.length)).sum + ys.length * a.length ≤ 1000000 ∧ Q (.str (Txt.join a ys)) S
theorem m_join : MthD X "str.join" rdJoin := ⟨_, mt_join, fun H S F x xs dx ds Qd Q r0 nx nxs q k => by
  obtain ⟨a, y, ys, rfl, rfl, e, hl, q⟩ := q
  obtain ⟨v, rfl, dv⟩ := dens1 nxs
  cases den_str nx
  obtain ⟨p, us, rfl, h1, d2⟩ := vw_lst r0 dv e
  cases dens_strsV d2
  exact ⟨a, p, ys, rfl, rfl, .inl (.of h1), by omega, k _ H S F _ (.refl r0) (.str _) q⟩⟩
end
end DL

set_option Elab.async false
set_option linter.all false
set_option autoImplicit false
set_option maxRecDepth 100000
set_option maxHeartbeats 2000000
/-! DL6: stores, raises, try, dict methods, freezing. -/
namespace DL
open PySem PySem.Spec L2

/-! ### a thing with identity is frozen -/
/-- the value of e, frozen: it has no identity any more -/
def frzQ (d : D) (S : IS) (Q : DK) : Prop := ∃ a, d = .ref a ∧ ((∃ ds, S a = some (.lst ds) ∧ Q (.lst ds) (delS S a)) ∨ ∃ kds, S a = some (.dct kds) ∧ Q (.dct kds) (delS S a))
def dFrz (t : DE) : DE := fun ρ S Q E => t ρ S (fun d S1 => frzQ d S1 Q) E
section
variable {X : Cx} {W : WX} {e : Expr} {t : DE}
theorem pe_lockOn {te : TE} (h : PE X e te) : PE X e (fun σ H Q => te σ H fun x H1 => Q x H1 ∨ ∃ a u, x = .ref a ∧ H1 a = some u ∧ Mut (some u) ∧ ∀ od, Q x (upd H1 a (.frz od u))) := by
  refine ⟨fun pins s σ H Q I q => ?_⟩
  refine thn (h.run pins s σ H _ I q) fun v s1 ⟨x, H1, I1, rx, q1⟩ => ?_
  rcases q1 with q1 | ⟨a, u, ex, hu, mu, q1⟩
  · exact ⟨x, H1, I1, rx, q1⟩
  · obtain ⟨od, I2⟩ := I1.lock hu mu
    exact ⟨x, _, I2, rx, q1 od⟩
theorem dx_frz (h : DX X W e t) : DX X W e (dFrz t) := (pe_lockOn h).weaken fun σ H Q q => by
  obtain ⟨ρ, S, F, Qd, Ex, R, q1, kq, kw⟩ := q
  refine ⟨ρ, S, F, _, Ex, R, q1, fun v H1 S1 F1 d A1 dn q2 => ?_, kw⟩
  obtain ⟨a, rfl, ⟨ds, hs, q2⟩ | ⟨kds, hs, q2⟩⟩ := q2
  · cases den_ref dn
    obtain ⟨vs, h1, d1, l1⟩ := io_lst A1.r0 hs
    have A := A1.r0.freeze hs h1
    exact .inl (kq _ _ _ _ _ (A1.trans A) (.lst upd_same (d1.mono A.same) l1) q2)
  · cases den_ref dn
    obtain ⟨kvs, h1, d1, n1, l1⟩ := io_dct A1.r0 hs
    refine .inr ⟨a, _, rfl, h1, True.intro, fun od => ?_⟩
    have A := A1.r0.freezeL (o := .dK kvs) (ob := od) hs
    exact kq _ _ _ _ _ (A1.trans A) (.dct upd_same (d1.mono A.same) l1 n1) q2
end

/-! ### stores -/
abbrev RSt := D → D → D → IS → (IS → Prop) → Prop
/-- o[i] = v -/
def stIx : RSt := fun o i v S Q => ∃ a, o = .ref a ∧ ((∃ ds k j, S a = some (.lst ds) ∧ i = .int k ∧ ixN ds.length k = some j ∧ Q (updS S a (.lst (ds.set j v)))) ∨
  ∃ kds k, S a = some (.dct kds) ∧ keyD i = some k ∧ kds.length < 1000000 ∧ Q (updS S a (.dct (kput kds k v))))
def rSetD : V → V → V → Hp → (Hp → Prop) → Prop := fun o i v H Q => ∃ a H', o = .ref a ∧ DPut H a i v H' ∧ Q H'
section
variable {X : Cx} {W : WX} {pos tpos : Pos} {o i e : Expr} {to ti te : DE}
theorem set_dict (hu : X.A.units + 1 < cLine) : PSet X rSetD := by
  intro pins s σ H o i v ov iv u Q I ro ri rv h
  obtain ⟨a, H', rfl, g, q⟩ := h
  cases ro
  exact d_setItem hu I g ri rv fun s4 I4 => ⟨H', I4, q⟩
theorem PSet.or {t u : TSet} (h : PSet X t) (h' : PSet X u) : PSet X (fun o i v H Q => t o i v H Q ∨ u o i v H Q) := fun pins s σ H o i v ov iv uu Q I ro ri rv q => q.elim (h pins s σ H o i v ov iv uu Q I ro ri rv) (h' pins s σ H o i v ov iv uu Q I ro ri rv)
/-- stores by data -/
theorem st_of {K : PySem.W.Frag} {H : Hp} {S : IS} {F : Hp} {o i v : V} {od id vd : D} {Qd : IS → Prop} {Q : Hp → Prop} (r0 : Rel0 K H S F) (no : Den K F o od) (ni : Den K F i id) (nv : Den K F v vd) (q : stIx od id vd S Qd)
    (k : ∀ H' S' F', After K H S F H' S' F' → Qd S' → Q H') : rSetL o i v H Q ∨ rSetD o i v H Q := by
  obtain ⟨a, rfl, ⟨ds, kk, j, hs, rfl, hj, q⟩ | ⟨kds, ky, hs, e, hl, q⟩⟩ := q
  · cases den_ref no
    cases den_int ni
    obtain ⟨vs, h1, d1, l1⟩ := io_lst r0 hs
    have A := r0.chgS (o := .lst (vs.set j v)) (i := .lst (ds.set j vd)) hs ⟨d1.set nv j, by rw [List.length_set]; exact l1⟩
    exact .inl ⟨a, vs, kk, j, rfl, rfl, h1, by rw [d1.length]; exact hj, k _ _ _ A q⟩
  · cases den_ref no
    obtain ⟨kvs, h1, d1, n1, l1⟩ := io_dct r0 hs
    have A := r0.chgS (o := .dK (putK kvs ky v)) (i := .dct (kput kds ky vd)) hs ⟨d1.put nv, kput_nodup n1, Nat.le_trans kput_length (le_line hl)⟩
    refine .inr ⟨a, _, rfl, ?_, k _ _ _ A q⟩
    rw [keyD_v ni e]
    exact .k h1 (by rw [d1.length]; exact Nat.lt_of_lt_of_le hl (le_line (Nat.le_refl _)))
def dSto (te to ti : DE) : DSt := fun E ρ S => te ρ S (fun v S1 => to ρ S1 (fun o S2 => ti ρ S2 (fun i S3 => stIx o i v S3 (fun S4 => E.nx ρ S4)) (exOf E ρ)) (exOf E ρ)) (exOf E ρ)
theorem ds_sto (hu : X.A.units + 1 < cLine) (he : DX X W e te) (ho : DX X W o to) (hi : DX X W i ti)
    (h : ∀ {t : TSet}, PSet X t → PS X (.Assign [.Subscript o i tpos] e pos) (tAsg (cTE X.K W te) (gSub (cTE X.K W to) (cTE X.K W ti) t))) : DS X W (.Assign [.Subscript o i tpos] e pos) (dSto te to ti) :=
  (h (PSet.or set_list (set_dict hu))).weaken fun D σ H q => by
    obtain ⟨ρ, S, F, E, R, q1, k⟩ := q
    have kw := k.wok R
    refine ⟨ρ, S, F, _, _, R, q1, fun v H1 S1 F1 d A1 dn q2 => ?_, kw⟩
    refine ⟨ρ, S1, F1, _, _, R.after A1, q2, fun u H2 S2 F2 d2 A2 dn2 q3 => ?_, kw.after A1⟩
    refine ⟨ρ, S2, F2, _, _, R.after (A1.trans A2), q3, fun w H3 S3 F3 d3 A3 dn3 q4 => ?_, kw.after (A1.trans A2)⟩
    exact st_of A3.r0 (dn2.mono A3.same) dn3 (dn.mono (A2.trans A3).same) q4 fun H' S' F' A4 q5 => k.nx σ H' ρ S' F' (A1.trans (A2.trans (A3.trans A4))) (R.after (A1.trans (A2.trans (A3.trans A4)))) q5
/-- o[i] by values, for an augmented store -/
structure GetD (X : Cx) (rd : RD) : Prop where
  ex : ∃ t, PGet X t ∧ Lift2 X.K t rd
open PyProof.Rows in
theorem get_list : PGet X (rIxL X.K) := by
  intro pins s σ H o i ov iv Q I ro ri h
  obtain ⟨p, xs, i, z, rfl, rfl, hq, he, q⟩ := h
  cases ro
  obtain ⟨t, rfl⟩ := ri
  obtain ⟨its, r, pl, hz⟩ := I.list hq
  obtain ⟨j, h1, h2, h3, h4, h5⟩ := atI_get he
  obtain ⟨w, ew, rw'⟩ := r.get h2
  have hl := r.length
  have hn := line63
  have fin : EP X pins σ Q w s := ⟨z, H, I, rw', q⟩
  by_cases h0 : 0 ≤ i
  · have hj : i.toNat = j := by
      rw [seqIndex_of h0 h5] at h1
      exact Option.some.inj h1
    exact wpAny_getItem_list pl.isList h0 (by omega) (by rw [hj]; simpa using ew) fin
  · have hj : (i + (its.toArray.size : Int)).toNat = j := by
      rw [seqIndex_neg (by omega) h4] at h1
      rw [List.size_toArray, ← hl]
      exact Option.some.inj h1
    exact wpAny_getItem_list_neg pl.isList (by omega) (by rw [List.size_toArray] <;> omega) (by omega) (by rw [hj]; simpa using ew) fin
theorem get_dict (hu : X.A.units + 1 < cLine) : PGet X rIxK := by
  intro pins s σ H o i ov iv Q I ro ri h
  obtain ⟨a, v, rfl, g, q⟩ := h
  cases ro
  exact d_getItem hu I g ri fun w' s3 I3 rw' => ⟨v, H, I3, rw', q⟩
theorem PGet.or {t u : V → V → Hp → VK → Prop} (h : PGet X t) (h' : PGet X u) : PGet X (fun o i H Q => t o i H Q ∨ u o i H Q) := fun pins s σ H o i ov iv Q I ro ri q => q.elim (h pins s σ H o i ov iv Q I ro ri) (h' pins s σ H o i ov iv Q I ro ri)
def dAugS (rd : RD) (to ti te : DE) : DSt := fun E ρ S => to ρ S (fun o S1 => ti ρ S1 (fun i S2 => ∃ a, o = .ref a ∧ ((∃ ds k z, S2 a = some (.lst ds) ∧ i = .int k ∧ L2.atI ds k = some z ∧ te ρ S2 (fun y S3 => rd z y S3 (fun n S4 => stIx o i n S4 (fun S5 => E.nx ρ S5))) (exOf E ρ)) ∨
  ∃ kds ky z, S2 a = some (.dct kds) ∧ keyD i = some ky ∧ kget kds ky = some z ∧ te ρ S2 (fun y S3 => rd z y S3 (fun n S4 => stIx o i n S4 (fun S5 => E.nx ρ S5))) (exOf E ρ))) (exOf E ρ)) (exOf E ρ)
theorem ds_augS {op : Operator} {rd : RD} (hu : X.A.units + 1 < cLine) (hop : Ip2 X op rd) (ho : DX X W o to) (hi : DX X W i ti) (he : DX X W e te)
    (ha : ∀ ov iv new, augStore i ov iv new = (do holding [new, ov, iv] (setItem ov iv new); release [new, ov, iv] []; pure .next) := by intros; rfl) : DS X W (.AugAssign (.Subscript o i tpos) op e pos) (dAugS rd to ti te) := by
  obtain ⟨r, h1, h2⟩ := hop.ex
  refine (ps_augS ho hi (PGet.or get_list (get_dict hu)) he h1 (PSet.or set_list (set_dict hu)) ha).weaken fun DD σ H q => ?_
  obtain ⟨ρ, S, F, E, R, q1, k⟩ := q
  have kw := k.wok R
  refine ⟨ρ, S, F, _, _, R, q1, fun v H1 S1 F1 d A1 dn q2 => ?_, kw⟩
  refine ⟨ρ, S1, F1, _, _, R.after A1, q2, fun u H2 S2 F2 d2 A2 dn2 q3 => ?_, kw.after A1⟩
  have A12 := A1.trans A2
  have fin : ∀ {z : V} {zd : D}, Den X.K F2 z zd → te ρ S2 (fun y S3 => rd zd y S3 (fun n S4 => stIx d d2 n S4 (fun S5 => E.nx ρ S5))) (exOf E ρ) →
      cTE X.K W te σ H2 fun y H4 => r z y H4 fun n H5 => (fun o i v H Q => rSetL o i v H Q ∨ rSetD o i v H Q) v u n H5 fun H6 => DD.nx σ H6 := fun {z zd} nz q => by
    refine ⟨ρ, S2, F2, _, _, R.after A12, q, fun y H3 S3 F3 d3 A3 dn3 q4 => ?_, kw.after A12⟩
    refine h2 H3 S3 F3 z y zd d3 _ _ A3.r0 (nz.mono A3.same) dn3 q4 fun n H4 S4 F4 d4 A4 dn4 q5 => ?_
    have A34 := A3.trans A4
    exact st_of A4.r0 (dn.mono (A2.trans A34).same) (dn2.mono A34.same) dn4 q5 fun H' S' F' A5 q6 => k.nx σ H' ρ S' F' (A12.trans (A34.trans A5)) (R.after (A12.trans (A34.trans A5))) q6
  obtain ⟨a, rfl, ⟨ds, kk, z, hs, rfl, hz, q3⟩ | ⟨kds, ky, z, hs, e1, e2, q3⟩⟩ := q3
  · cases den_ref (dn.mono A2.same)
    cases den_int dn2
    obtain ⟨vs, g1, d1, l1⟩ := io_lst A2.r0 hs
    obtain ⟨zv, e3, n3⟩ := d1.atI hz
    exact .inl ⟨a, vs, kk, zv, rfl, rfl, .of g1, e3, fin n3 q3⟩
  · cases den_ref (dn.mono A2.same)
    obtain ⟨kvs, g1, d1, n1, l1⟩ := io_dct A2.r0 hs
    obtain ⟨zv, e3, n3⟩ := d1.getS e2
    refine .inr ⟨a, zv, rfl, .inl ⟨kvs, ky, .inl g1, keyD_v dn2 e1, e3.symm⟩, fin n3 q3⟩
theorem ip_addD : Ip2 X .Add (rdI (fun _ _ => True) fun i j => .int (i + j)) := ⟨_, ip_add, fun H S F x y dx dy Qd Q r0 nx ny q k => by
  obtain ⟨i, j, rfl, rfl, _, q⟩ := rdI_inv q
  cases den_int nx
  cases den_int ny
  exact ⟨i, j, rfl, rfl, k _ H S F _ (.refl r0) (.int _) q⟩⟩
theorem ip_subD : Ip2 X .Sub (rdI (fun _ _ => True) fun i j => .int (i - j)) := ⟨_, ip_sub, fun H S F x y dx dy Qd Q r0 nx ny q k => by
  obtain ⟨i, j, rfl, rfl, _, q⟩ := rdI_inv q
  cases den_int nx
  cases den_int ny
  exact ⟨i, j, rfl, rfl, k _ H S F _ (.refl r0) (.int _) q⟩⟩

/-! ### raise, try -/
/-- raise C('..'), an own class without fields -/
def dRaise (C : Value) : DSt := fun E ρ S => E.xc C none ρ S
theorem ds_raise {C : Value} {x : Expr} (tk : Takes X W) (hc : X.calm = true) (h : PMk X x (fun _ H Q => Q C none H)) : DS X W (.Raise (some x) none pos) (dRaise C) :=
  (ps_raise hc tk h).weaken fun D σ H q => by
    obtain ⟨ρ, S, F, E, R, q1, k⟩ := q
    exact k.xc C none none σ H ρ S F (.refl R.r0) R True.intro q1
/-- try: .. except c: suite; m tells what c names -/
def dTry (m : Value → Option Bool) (tb ts : DSt) : DSt := fun E ρ S => tb { E with xc := fun cls xa ρ' S' => ∃ b, m cls = some b ∧ (b = true → ts { E with xc := fun _ _ _ _ => False } ρ' S') ∧ (b = false → E.xc cls xa ρ' S') } ρ S
theorem ds_try {x : Str} {c : Value} {body suite : List Stmt} {b₀ : Stmt} {np pos' : Pos} {tb ts : DSt} (hs : X.stack = X.env :: X.outer) (hf : X.env.frame = some X.env.locals) (hc : Names X x c) (tk : Takes X W)
    (hb : ∀ (W' : WX) (pn : List (Addr × Obj)) (xe : Value → Shared → Prop), Takes (X.tr pn xe) W' → PassesOwn (model X.prog X.w) X.A X.env xe → DSs (X.tr pn xe) W' body tb)
    (hsu : ∀ (a : Addr) (pn : List (Addr × Obj)), DSs (X.suite a pn) W0 (b₀ :: suite) ts) :
    DS X W (.Try body [.ExceptHandler (some (.Name x np)) none (b₀ :: suite) pos'] [] [] pos) (dTry (fun cls => PySem.W.exmOne X.K cls c) tb ts) :=
  (ps_try_only (tb := fun W' => cTS X.K W' tb) (ts := fun _ _ _ => cTS X.K W0 ts) (Wout := W) hs hf hc tk (fun W' pn xe tk' po => hb W' pn xe tk' po) (fun a oe cls d pn _ _ => hsu a ((a, oe) :: pn))).weaken fun D σ H q => by
    obtain ⟨ρ, S, F, E, R, q1, k⟩ := q
    refine ⟨ρ, S, F, _, R, q1, k.nx, k.bk, k.ct, k.rt, ?_⟩
    intro cls dd xa σ' H' ρ' S' F' A' R' z q2
    obtain ⟨b, e1, e2, e3⟩ := q2
    refine ⟨b, e1, fun hb' a ha => ?_, fun hb' => k.xc cls dd xa σ' H' ρ' S' F' A' R' z (e3 hb')⟩
    exact ⟨ρ', S', F', _, R', e2 hb', (k.after A').nx, (k.after A').bk, (k.after A').ct, (k.after A').rt, fun _ _ _ _ _ _ _ _ _ _ _ w => w.elim⟩

/-! ### dict methods -/
variable {f : Expr} {tf : DE} {apos cpos : Pos}
/-- d.get(k, x) -/
def dGet2 (td tk tx : DE) : DE := fun ρ S Q E => td ρ S (fun d S1 => (∃ kds, vw S1 d = .dct kds) ∧ tk ρ S1 (fun y S2 => tx ρ S2 (fun z S3 => ∃ kds k, vw S3 d = .dct kds ∧ keyD y = some k ∧ Q ((kget kds k).getD z) S3) E) E) E
theorem dx_get2 (h : PE X (.Call (.Attribute o "get" apos) [e, f] [] cpos) (tDGet2 (cTE X.K W to) (cTE X.K W te) (cTE X.K W tf))) : DX X W (.Call (.Attribute o "get" apos) [e, f] [] cpos) (dGet2 to te tf) :=
  h.weaken fun σ H Q q => by
    obtain ⟨ρ, S, F, Qd, Ex, R, q1, kq, kw⟩ := q
    refine ⟨ρ, S, F, _, Ex, R, q1, fun v H1 S1 F1 d A1 dn q2 => ?_, kw⟩
    obtain ⟨⟨kds1, e1⟩, q2⟩ := q2
    obtain ⟨a, kvs, rfl, g1, _, _⟩ := vw_dct A1.r0 dn e1
    refine ⟨a, rfl, .inl ⟨kvs, g1⟩, ρ, S1, F1, _, Ex, R.after A1, q2, fun u H2 S2 F2 d2 A2 dn2 q3 => ?_, kw.after A1⟩
    have A12 := A1.trans A2
    refine ⟨ρ, S2, F2, _, Ex, R.after A12, q3, fun w H3 S3 F3 d3 A3 dn3 q4 => ?_, kw.after A12⟩
    obtain ⟨kds, ky, e3, e4, q4⟩ := q4
    obtain ⟨a', kvs', ea, g3, d3', _⟩ := vw_dct A3.r0 (dn.mono (A2.trans A3).same) e3
    cases ea
    refine ⟨valV kvs' ky, .inl ⟨kvs', ky, g3, keyD_v (dn2.mono A3.same) e4, rfl⟩, ?_⟩
    have dg := d3'.get (k := ky)
    refine kq _ H3 S3 F3 _ (A12.trans A3) ?_ q4
    cases z1 : valV kvs' ky with
    | none =>
      rw [z1] at dg
      cases z2 : kget kds ky with
      | none => exact dn3
      | some _ => rw [z2] at dg; exact dg.elim
    | some v1 =>
      rw [z1] at dg
      cases z2 : kget kds ky with
      | none => rw [z2] at dg; exact dg.elim
      | some _ => rw [z2] at dg; exact dg
end
end DL

set_option Elab.async false
set_option linter.all false
set_option autoImplicit false
set_option maxRecDepth 100000
set_option maxHeartbeats 2000000
/-! DL7: the rules as a derivation writes them. -/
namespace DL
open PySem PySem.Spec L2

section
variable {X : Cx} {W : WX} {a b c e o i iter tg : Expr} {es : List Expr} {ta tb tc te to ti : DE} {uA : DAt} {pos p apos cpos : Pos} {x : Str}
theorem x_callB {id : String} {rd : RDs} (hc : CallD X (.builtin id) rd) (hm : X.mg x = none) (hv : bootBuiltins x = some (.builtin id)) (ha : DA X W (e :: es) uA) (hg : Gl X x := by rfl) (hn : x ≠ "__name__" := by decide) (hdb : (x == ("__debug__" : Str)) = false := by decide)
    (he : starEach (e :: es) X.env = (false, eval e X.env) :: starEach es X.env := by rfl) (hpl : (backTo pos (starEach es X.env)).any (·.1) = false := by rfl) : DX X W (.Call (.Name x p) (e :: es) [] pos) (dCB rd uA) := by
  obtain ⟨r, h1, h2⟩ := hc.ex
  exact (pe_callB h1 hg hm hv ha hn hdb he hpl).weaken fun σ H Q q => cb h2 q
theorem x_callTy {T : String} {rd : RDs} (hc : CallD X (.type T) rd) (hm : X.mg x = none) (hv : bootBuiltins x = some (.type T)) (ha : DA X W (e :: es) uA) (hg : Gl X x := by rfl) (hn : x ≠ "__name__" := by decide) (hdb : (x == ("__debug__" : Str)) = false := by decide)
    (he : starEach (e :: es) X.env = (false, eval e X.env) :: starEach es X.env := by rfl) (hpl : (backTo pos (starEach es X.env)).any (·.1) = false := by rfl) : DX X W (.Call (.Name x p) (e :: es) [] pos) (dCB rd uA) := by
  obtain ⟨r, h1, h2⟩ := hc.ex
  exact (pe_callTy h1 hg hm hv ha hn hdb he hpl).weaken fun σ H Q q => cb h2 q
theorem x_chain {op op' : CmpOp} {rd rd' : RD} (ho : Op2 X (compareOp op) rd) (ho' : Op2 X (compareOp op') rd') (ha : DX X W a ta) (hb : DX X W b tb) (hc : DX X W c tc) (hm : lastMarks [op, op'] [b, c] = false := by with_unfolding_all rfl) :
    DX X W (.Compare a [op, op'] [b, c] pos) (dChain rd rd' ta tb tc) := by
  obtain ⟨r, h1, h2⟩ := ho.ex
  obtain ⟨r', h1', h2'⟩ := ho'.ex
  exact (pe_chain h1 h1' ha hb hc hm).weaken fun σ H Q q => chain h2 h2' q
theorem xt_chain {op op' : CmpOp} {rd rd' : RD} (ho : Op2 X (compareOp op) rd) (ho' : Op2 X (compareOp op') rd') (ha : DX X W a ta) (hb : DX X W b tb) (hc : DX X W c tc) (hm : lastMarks [op, op'] [b, c] = false := by with_unfolding_all rfl) :
    DT X W (.Compare a [op, op'] [b, c] pos) (dTst (dChain rd rd' ta tb tc)) := by
  obtain ⟨r, h1, h2⟩ := ho.ex
  obtain ⟨r', h1', h2'⟩ := ho'.ex
  exact (pt_chain h1 h1' ha hb hc hm).weaken fun σ H Q q => cTT_of (te := tChain r r' (cTE X.K W ta) (cTE X.K W tb) (cTE X.K W tc)) (fun Q' q' => chain h2 h2' q') q
/-- a name of the def -/
theorem xv (i : Nat) (hN : X.N[i]? = some x := by rfl) (hv : Vis X.env.scope x := by first | exact Or.inl rfl | exact Or.inr (Or.inl rfl) | exact Or.inr (Or.inr rfl)) (hd : (x == ("__debug__" : Str)) = false := by decide)
    (hcd : (x == ("__classdict__" : Str)) = false := by decide) : DX X W (.Name x pos) (dVar i) := dx_var (pe_var hN hv hd hcd)
/-- a constant of the module -/
theorem xg_int {n : Int} {u : Value} (hm : X.mg x = some u) (hu : ∃ t, u = .int n t) (hg : Gl X x := by rfl) (hd : (x == ("__debug__" : Str)) = false := by decide) : DX X W (.Name x pos) (dC (.int n)) := dx_c (pe_glob (v := .int n) hg hm hu hd) fun _ => .int n
theorem xg_str {n : Str} {u : Value} (hm : X.mg x = some u) (hu : ∃ t, u = .str n t) (hg : Gl X x := by rfl) (hd : (x == ("__debug__" : Str)) = false := by decide) : DX X W (.Name x pos) (dC (.str n)) := dx_c (pe_glob (v := .str n) hg hm hu hd) fun _ => .str n
theorem xg_ref {f : Addr} (hm : X.mg x = some (.ref f)) (hg : Gl X x := by rfl) (hd : (x == ("__debug__" : Str)) = false := by decide) : DX X W (.Name x pos) (dC (.ref f)) := dx_c (pe_glob (v := .ref f) hg hm rfl hd) fun _ => .ref f
theorem x_ty {n : String} (hm : X.mg x = none) (hv : bootBuiltins x = some (.type n)) (hg : Gl X x := by rfl) (hn : x ≠ "__name__" := by decide) (hd : (x == ("__debug__" : Str)) = false := by decide) : DX X W (.Name x pos) (dC (.ty n)) := dx_ty hg hm hv hn hd
theorem x_cmp {op : CmpOp} {rd : RD} (ho : Op2 X (compareOp op) rd) (ha : DX X W a ta) (hb : DX X W b tb) (hm : behindInMarks op b = false := by first | exact nomark _ | rfl) : DX X W (.Compare a [op] [b] pos) (dOp rd ta tb) := dx_cmp ho ha hb hm
theorem xt_cmp {op : CmpOp} {rd : RD} (ho : Op2 X (compareOp op) rd) (ha : DX X W a ta) (hb : DX X W b tb) (hm : behindInMarks op b = false := by first | exact nomark _ | rfl) : DT X W (.Compare a [op] [b] pos) (dTst (dOp rd ta tb)) := dt_cmp ho ha hb hm
theorem x_ix (hu : X.A.units + 1 < cLine) (ha : DX X W a ta) (hb : DX X W b tb) (hs : PlainIx b := by exact fun _ _ => rfl) : DX X W (.Subscript a b pos) (dOp rdIx ta tb) := dx_ix (i_ix hu) ha hb hs
theorem x_neg (ha : DX X W a ta) : DX X W (.UnaryOp .USub a pos) (fun ρ S Q E => ta ρ S (fun x S1 => ∃ i, x = .int i ∧ Q (.int (-i)) S1) E) := (pe_un un_neg ha).weaken fun σ H Q q => by
  obtain ⟨ρ, S, F, Qd, Ex, R, q1, kq, kw⟩ := q
  refine ⟨ρ, S, F, _, Ex, R, q1, fun v H1 S1 F1 d A1 dn q2 => ?_, kw⟩
  obtain ⟨i, rfl, q2⟩ := q2
  exact ⟨i, den_int dn, kq _ H1 S1 F1 _ A1 (.int _) q2⟩
/-- o.m(e, ..), o of a built-in type -/
theorem x_bm {T id : String} {name : Str} {rd : D → List D → IS → DK → Prop} (pa : PlainAttrs T) (slot : Slot T name id) (hty : typeOf (.builtin id) = pure (.type "method_descriptor")) (hm : MthD X id rd) (ho : DX X W o to) (ha : DA X W (e :: es) uA)
    (hbase : attributeBase o name X.env (eval o X.env) = eval o X.env := by rfl)
    (hfew : ((backTo cpos (starEach (e :: es) X.env)).all (fun x => !x.1) && (backToKw cpos (keywordEach [] X.env)).all (fun x => x.1.isSome)
      && decide ((e :: es).length + ([] : List Keyword).length + (if ([] : List Keyword).isEmpty then 0 else 1) < 30)) = true := by rfl)
    (hline : (apos.endLine == cpos.line) = true := by rfl) (hs : starEach (e :: es) X.env = (false, eval e X.env) :: starEach es X.env := by rfl) (hplain : (backTo cpos (starEach es X.env)).any (·.1) = false := by rfl) :
    DX X W (.Call (.Attribute o name apos) (e :: es) [] cpos) (dBM T rd to uA) := by
  obtain ⟨r, h1, h2⟩ := hm.ex
  exact (pe_bm pa slot hty h1 ho ha hbase hfew hline hs hplain).weaken fun σ H Q q => bm_of h2 q
theorem x_append (ho : DX X W o to) (he : DX X W e te) (hs : starEach [e] X.env = (false, eval e X.env) :: starEach [] X.env := by rfl) (hbase : attributeBase o "append" X.env (eval o X.env) = eval o X.env := by rfl)
    (hfew : ((backTo cpos (starEach [e] X.env)).all (fun x => !x.1) && (backToKw cpos (keywordEach [] X.env)).all (fun x => x.1.isSome)
      && decide (([e] : List Expr).length + ([] : List Keyword).length + (if ([] : List Keyword).isEmpty then 0 else 1) < 30)) = true := by rfl)
    (hline : (apos.endLine == cpos.line) = true := by rfl) : DX X W (.Call (.Attribute o "append" apos) [e] [] cpos) (dBM "list" rdAppend to (dCons te dNil)) :=
  x_bm PySem.F.plainAttrs_list PySem.F.slot_list_append PySem.F.type_list_append m_append ho (da_cons he da_nil hs) hbase hfew hline hs rfl
/-! comprehensions -/
theorem x_lc {elt : Expr} {ifs : List Expr} {scope : Scope} {own : List (Str × Nat)} {it : DIt} {T : Tg} {tt : DTt} {tE : DE} (hc : X.calm = true) (hN : X.N.Nodup) (hi : DI X W tg iter it) (ok : blkC X.N X.env.scope scope own = true)
    (hg : ∀ (s : Shared) (H : Hp) (C : Addr) (cl : List (Str × Addr)) (fp : List Addr), DG (X.blk s H scope (compEnvC scope cl C X.env) fp) tg T) (ht : ∀ (s : Shared) (H : Hp) (C : Addr) (cl : List (Str × Addr)) (fp : List Addr), PTs (X.blk s H scope (compEnvC scope cl C X.env) fp) ifs (cTT X.K W0 tt))
    (he : ∀ (s : Shared) (H : Hp) (C : Addr) (cl : List (Str × Addr)) (fp : List Addr), DX (X.blk s H scope (compEnvC scope cl C X.env) fp) W0 elt tE) (hT : ∀ i ∈ T.slots, i ∈ own.map (·.2)) (hs : ∀ x, foldedSetIterable iter X.env x = pure x := by intro _; rfl) :
    DX X W (.ListComp elt [⟨tg, iter, ifs, 0⟩] scope pos) (dLc it T tt tE (own.map (·.2))) := dx_lc (pe_lc hc hN hi (blkOk_by ok) hg ht he hs) hT
theorem x_lcI {elt : Expr} {ifs : List Expr} {scope : Scope} {own : List (Str × Nat)} {it : DIt} {T : Tg} {tt : DTt} {tE : DE} (hc : X.calm = true) (hN : X.N.Nodup) (hi : DI X W tg iter it) (ok : blkC X.N X.env.scope scope own = true)
    (hg : ∀ (s : Shared) (H : Hp) (C : Addr) (cl : List (Str × Addr)) (fp : List Addr), DG (X.blk s H scope (compEnvC scope cl C X.env) fp) tg T) (ht : ∀ (s : Shared) (H : Hp) (C : Addr) (cl : List (Str × Addr)) (fp : List Addr), PTs (X.blk s H scope (compEnvC scope cl C X.env) fp) ifs (cTT X.K W0 tt))
    (he : ∀ (s : Shared) (H : Hp) (C : Addr) (cl : List (Str × Addr)) (fp : List Addr), DX (X.blk s H scope (compEnvC scope cl C X.env) fp) W0 elt tE) (hT : ∀ i ∈ T.slots, i ∈ own.map (·.2)) (hs : ∀ x, foldedSetIterable iter X.env x = pure x := by intro _; rfl) :
    DX X W (.ListComp elt [⟨tg, iter, ifs, 0⟩] scope pos) (dLcI it T tt tE (own.map (·.2))) := dx_lcI (pe_lc hc hN hi (blkOk_by ok) hg ht he hs) hT
/-- y = [..], y a plain local -/
theorem x_setLc {j : Nat} {y : Str} {py spos : Pos} {elt : Expr} {ifs : List Expr} {scope : Scope} {own : List (Str × Nat)} {it : DIt} {T : Tg} {tt : DTt} {tE : DE} (hc : X.calm = true) (hN : X.N.Nodup) (hi : DI X W tg iter it) (ok : blkC X.N X.env.scope scope own = true)
    (hg : ∀ (s : Shared) (H : Hp) (C : Addr) (cl : List (Str × Addr)) (fp : List Addr), DG (X.blk s H scope (compEnvC scope cl C X.env) fp) tg T) (ht : ∀ (s : Shared) (H : Hp) (C : Addr) (cl : List (Str × Addr)) (fp : List Addr), PTs (X.blk s H scope (compEnvC scope cl C X.env) fp) ifs (cTT X.K W0 tt))
    (he : ∀ (s : Shared) (H : Hp) (C : Addr) (cl : List (Str × Addr)) (fp : List Addr), DX (X.blk s H scope (compEnvC scope cl C X.env) fp) W0 elt tE) (hT : ∀ i ∈ T.slots, i ∈ own.map (·.2))
    (hk : X.env.scope.kind = .function := by rfl) (hy : X.N[j]? = some y := by rfl) (hyl : X.env.scope.names.lookup y = some .local := by rfl) (hl : (py.line == pos.line) = true := by rfl) (hna : (scope.names.any fun (n, k) => n == y && (k == .local || k == .cell)) = false := by decide +kernel)
    (hs : ∀ x, foldedSetIterable iter X.env x = pure x := by intro _; rfl) :
    DS X W (.Assign [.Name y py] (.ListComp elt [⟨tg, iter, ifs, 0⟩] scope pos) spos) (dSet j (dLc it T tt tE (own.map (·.2)))) :=
  (ps_setLc hc hN hy hyl (sw_true hk hyl hl hna) hi (blkOk_by ok) hg ht he hs).weaken fun DD σ H q => by
    obtain ⟨ρ, S, F, E, R, q1, k⟩ := q
    exact lc_frz (W := W) hT ⟨ρ, S, F, _, _, R, q1, fun v H1 S1 F1 d A1 dn q2 => k.nx _ H1 _ S1 F1 A1 ((R.after A1).set dn j) q2, k.wok R⟩
theorem x_setLcI {j : Nat} {y : Str} {py spos : Pos} {elt : Expr} {ifs : List Expr} {scope : Scope} {own : List (Str × Nat)} {it : DIt} {T : Tg} {tt : DTt} {tE : DE} (hc : X.calm = true) (hN : X.N.Nodup) (hi : DI X W tg iter it) (ok : blkC X.N X.env.scope scope own = true)
    (hg : ∀ (s : Shared) (H : Hp) (C : Addr) (cl : List (Str × Addr)) (fp : List Addr), DG (X.blk s H scope (compEnvC scope cl C X.env) fp) tg T) (ht : ∀ (s : Shared) (H : Hp) (C : Addr) (cl : List (Str × Addr)) (fp : List Addr), PTs (X.blk s H scope (compEnvC scope cl C X.env) fp) ifs (cTT X.K W0 tt))
    (he : ∀ (s : Shared) (H : Hp) (C : Addr) (cl : List (Str × Addr)) (fp : List Addr), DX (X.blk s H scope (compEnvC scope cl C X.env) fp) W0 elt tE) (hT : ∀ i ∈ T.slots, i ∈ own.map (·.2))
    (hk : X.env.scope.kind = .function := by rfl) (hy : X.N[j]? = some y := by rfl) (hyl : X.env.scope.names.lookup y = some .local := by rfl) (hl : (py.line == pos.line) = true := by rfl) (hna : (scope.names.any fun (n, k) => n == y && (k == .local || k == .cell)) = false := by decide +kernel)
    (hs : ∀ x, foldedSetIterable iter X.env x = pure x := by intro _; rfl) :
    DS X W (.Assign [.Name y py] (.ListComp elt [⟨tg, iter, ifs, 0⟩] scope pos) spos) (dSet j (dLcI it T tt tE (own.map (·.2)))) :=
  (ps_setLc hc hN hy hyl (sw_true hk hyl hl hna) hi (blkOk_by ok) hg ht he hs).weaken fun DD σ H q => by
    obtain ⟨ρ, S, F, E, R, q1, k⟩ := q
    exact lc_own (W := W) hT ⟨ρ, S, F, _, _, R, q1, fun v H1 S1 F1 d A1 dn q2 => k.nx _ H1 _ S1 F1 A1 ((R.after A1).set dn j) q2, k.wok R⟩
/-! iterators -/
theorem xi_rng1 (hm : X.mg "range" = none) (ha : DA X W [a] uA) (hg : Gl X "range" := by rfl) (hs : starEach [a] X.env = [(false, eval a X.env)] := by rfl) : DI X W tg (.Call (.Name "range" p) [a] [] pos) (dRng1 uA) := di_rng1 (pi_range1 hg hm ha hs)
theorem xi_rng2 (hm : X.mg "range" = none) (ha : DA X W [a, b] uA) (hg : Gl X "range" := by rfl) (hs : starEach [a, b] X.env = [(false, eval a X.env), (false, eval b X.env)] := by rfl) (hs2 : starEach [b] X.env = [(false, eval b X.env)] := by rfl) : DI X W tg (.Call (.Name "range" p) [a, b] [] pos) (dRng2 uA) := di_rng2 (pi_range2 hg hm ha hs hs2)
/-- zip of two lists, of two tuples -/
def zipD : List D → List D → List D
  | x :: xs, y :: ys => .tup [x, y] :: zipD xs ys
  | _, _ => []
theorem zipD_get : ∀ {xs ys : List D} {i : Nat} {d : D}, (zipD xs ys)[i]? = some d → ∃ x y, xs[i]? = some x ∧ ys[i]? = some y ∧ d = .tup [x, y]
  | [], _, _, _, h => by simp [zipD] at h
  | _ :: _, [], _, _, h => by simp [zipD] at h
  | x :: xs, y :: ys, 0, d, h => by
    simp [zipD] at h
    exact ⟨x, y, rfl, rfl, h.symm⟩
  | x :: xs, y :: ys, i + 1, d, h => by
    obtain ⟨x', y', h1, h2, h3⟩ := zipD_get (xs := xs) (ys := ys) (i := i) (d := d) (by simpa [zipD] using h)
    exact ⟨x', y', by simpa using h1, by simpa using h2, h3⟩
theorem zipD_length : ∀ (xs ys : List D), (zipD xs ys).length = min xs.length ys.length
  | [], _ => by simp [zipD]
  | _ :: _, [] => by simp [zipD]
  | x :: xs, y :: ys => by simp [zipD, zipD_length xs ys, Nat.succ_min_succ]
def zipArgs : D → D → Option (List D × List D)
  | .lst xs, .lst ys => some (xs, ys)
  | .tup xs, .tup ys => some (xs, ys)
  | _, _ => none
def dZip (t : DAt) : DIt := fun ρ S Q E => t ρ S (fun ds S1 => ∃ x y xs ys, ds = [x, y] ∧ zipArgs x y = some (xs, ys) ∧ Q (zipD xs ys) S1) E
theorem jok_zip {K : PySem.W.Frag} {F0 : Hp} {a b : Addr} {vs us : List V} {ds es : List D} (h1 : F0 a = some (.lst vs)) (h2 : F0 b = some (.lst us)) (d1 : Dens K F0 vs ds) (d2 : Dens K F0 us es) : JOk K (Itz K a b) F0 (zipD ds es) where
  stop := fun F S H sm r => ⟨vs, us, .of (r.same _ _ (sm _ _ h1)), .of (r.same _ _ (sm _ _ h2)), by rw [d1.length, d2.length, zipD_length]; omega⟩
  go := fun i F S H sm r hi => by
    rw [zipD_length] at hi
    have e1 : i < vs.length := by rw [d1.length]; omega
    have e2 : i < us.length := by rw [d2.length]; omega
    exact ⟨vs, us, vs[i], us[i], .of (r.same _ _ (sm _ _ h1)), .of (r.same _ _ (sm _ _ h2)), List.getElem?_eq_getElem e1, List.getElem?_eq_getElem e2⟩
  yld := fun i F S H x H' d sm r y e => by
    obtain ⟨T, u, w, rfl, nT, rfl, y1, y2⟩ := y
    obtain ⟨x', y', g1, g2, rfl⟩ := zipD_get e
    obtain ⟨v1, k1, n1⟩ := d1.get g1
    obtain ⟨v2, k2, n2⟩ := d2.get g2
    have z1 := y1 vs (.of (r.same _ _ (sm _ _ h1)))
    have z2 := y2 us (.of (r.same _ _ (sm _ _ h2)))
    obtain rfl : v1 = u := Option.some.inj (k1.symm.trans z1)
    obtain rfl : v2 = w := Option.some.inj (k2.symm.trans z2)
    have A := r.newF (o := .tup [v1, v2]) nT
    exact ⟨_, A, .tup (.inl upd_same) (.cons ((n1.mono sm).mono A.same) (.cons ((n2.mono sm).mono A.same) .nil)) (le_line (by simp))⟩
theorem jok_zipT {K : PySem.W.Frag} {F0 : Hp} {a b : Addr} {vs us : List V} {ds es : List D} (h1 : TpAt K F0 a vs) (h2 : TpAt K F0 b us) (d1 : Dens K F0 vs ds) (d2 : Dens K F0 us es) : JOk K (RZ.ItzT K a b) F0 (zipD ds es) where
  stop := fun F S H sm r => ⟨vs, us, (Same.tq sm h1).sq r.same, (Same.tq sm h2).sq r.same, by rw [d1.length, d2.length, zipD_length]; omega⟩
  go := fun i F S H sm r hi => by
    rw [zipD_length] at hi
    have e1 : i < vs.length := by rw [d1.length]; omega
    have e2 : i < us.length := by rw [d2.length]; omega
    exact ⟨vs, us, vs[i], us[i], (Same.tq sm h1).sq r.same, (Same.tq sm h2).sq r.same, List.getElem?_eq_getElem e1, List.getElem?_eq_getElem e2⟩
  yld := fun i F S H x H' d sm r y e => by
    obtain ⟨T, u, w, rfl, nT, rfl, y1, y2⟩ := y
    obtain ⟨x', y', g1, g2, rfl⟩ := zipD_get e
    obtain ⟨v1, k1, n1⟩ := d1.get g1
    obtain ⟨v2, k2, n2⟩ := d2.get g2
    have z1 := y1 vs ((Same.tq sm h1).sq r.same)
    have z2 := y2 us ((Same.tq sm h2).sq r.same)
    obtain rfl : v1 = u := Option.some.inj (k1.symm.trans z1)
    obtain rfl : v2 = w := Option.some.inj (k2.symm.trans z2)
    have A := r.newF (o := .tup [v1, v2]) nT
    exact ⟨_, A, .tup (.inl upd_same) (.cons ((n1.mono sm).mono A.same) (.cons ((n2.mono sm).mono A.same) .nil)) (le_line (by simp))⟩
theorem xi_zip {elts : List Expr} {kk : Nat} {tpos : Pos} (hm : X.mg "zip" = none) (ha : DA X W [a, b] uA) (hg : Gl X "zip" := by rfl) (hs : starEach [a, b] X.env = (false, eval a X.env) :: starEach [b] X.env := by rfl) (hpl : (backTo pos (starEach [b] X.env)).any (·.1) = false := by rfl) :
    DI X W (.Tuple elts kk tpos) (.Call (.Name "zip" p) [a, b] [] pos) (dZip uA) := (RZ.pi_zipA hg hm ha hs hpl).weaken fun σ H R q => by
  obtain ⟨ρ, S, F, Qd, Ex, RR, q1, kq, kw⟩ := q
  refine ⟨ρ, S, F, _, Ex, RR, q1, fun vs H1 S1 F1 ds A1 dn q2 => ?_, kw⟩
  obtain ⟨x, y, xs, ys, rfl, e, q2⟩ := q2
  obtain ⟨v, u, rfl, n1, n2⟩ := dens2 dn
  cases x <;> cases y <;> cases e
  · cases n1 with
    | tup g1 d1 l1 =>
      cases n2 with
      | tup g2 d2 l2 => exact ⟨_, _, _, _, rfl, .inr ⟨g1.sq A1.r0.same, g2.sq A1.r0.same, kq _ _ _ _ _ A1 (jok_zipT g1 g2 d1 d2) (by rw [zipD_length]; exact Nat.le_trans (Nat.min_le_left _ _) l1) q2⟩⟩
  · cases n1 with
    | lst g1 d1 l1 =>
      cases n2 with
      | lst g2 d2 l2 => exact ⟨_, _, _, _, rfl, .inl ⟨.of (A1.r0.same _ _ g1), .of (A1.r0.same _ _ g2), kq _ _ _ _ _ A1 (jok_zip g1 g2 d1 d2) (by rw [zipD_length]; exact Nat.le_trans (Nat.min_le_left _ _) l1) q2⟩⟩
/-! statements -/
variable {st : Stmt} {body : List Stmt} {T : Tg} {tS : DSt} {it : DIt}
theorem s_set {j : Nat} {pos' : Pos} (he : DX X W e te) (hN : X.N.Nodup) (hi : X.N[j]? = some x := by rfl) (hx : Loc X.env.scope x := by first | exact Or.inl rfl | exact Or.inr rfl) (hs : swapsWith e (some (.Name x pos')) pos.line X.env = pure false := by rfl) (hf : X.fn x = true ∨ X.env.scope.names.lookup x = some .local := by first | exact .inl rfl | exact .inr rfl) :
    DS X W (.Assign [.Name x pos'] e pos) (dSet j te) := (ps_set hN hi hx he hs hf).weaken fun D σ H q => set_of q
theorem s_aug {j : Nat} {op : Operator} {rd : RD} {pos' : Pos} (ho : Ip2 X op rd) (he : DX X W e te) (hN : X.N.Nodup) (hi : X.N[j]? = some x := by rfl) (hx : Loc X.env.scope x := by first | exact Or.inl rfl | exact Or.inr rfl) (hf : X.fn x = true ∨ X.env.scope.names.lookup x = some .local := by first | exact .inl rfl | exact .inr rfl) :
    DS X W (.AugAssign (.Name x pos') op e pos) (dAug j rd te) := ds_aug ho he fun h1 h2 => ps_aug hN hi hx h2 h1 hf
theorem g_nm {j : Nat} (hN : X.N.Nodup) (hi : X.N[j]? = some x := by rfl) (hx : Loc X.env.scope x := by first | exact Or.inl rfl | exact Or.inr rfl) (hf : X.fn x = true ∨ X.env.scope.names.lookup x = some .local := by first | exact .inl rfl | exact .inr rfl) : DG X (.Name x pos) (.nm j) := dg_name (pg_name hN hi hx hf)
theorem s_for (hp : PassesOwn (model X.prog X.w) X.A X.env X.xe) (hc : X.calm = true) (hi : DI X W tg iter it) (hg : DG X tg T) (hb : DSs X W body tS) (hs : ∀ x, foldedSetIterable iter X.env x = pure x := by intro _; rfl) :
    DS X W (.For tg iter body [] pos) (dFor it T tS) := ds_for (fun h1 h2 h3 => ps_for hp hc h1 h2 h3 hs) hi hg hb
theorem s_par {j k : Nat} {y : Str} {px py pt : Pos} {kt k2 pt2} (hc : X.calm = true) (hN : X.N.Nodup) (ha : DA X W [a, b] uA) (hi : X.N[j]? = some x := by rfl) (hj : X.N[k]? = some y := by rfl) (hij : j ≠ k := by decide)
    (hx : X.env.scope.names.lookup x = some .local := by rfl) (hy : X.env.scope.names.lookup y = some .local := by rfl)
    (hw : swappedStores [.Tuple [.Name x px, .Name y py] kt pt] (.Tuple [a, b] k2 pt2) X.env = pure (some [x, y]) := by rfl)
    (hs : swapsWithSole [.Tuple [.Name x px, .Name y py] kt pt] (.Tuple [a, b] k2 pt2) pos.line X.env = pure false := by rfl) :
    DS X W (.Assign [.Tuple [.Name x px, .Name y py] kt pt] (.Tuple [a, b] k2 pt2) pos) (dPar j k uA) := ds_par (ps_par hc hN hi hj hij hx hy ha hw hs)
theorem s_sto {tpos : Pos} (hu : X.A.units + 1 < cLine) (he : DX X W e te) (ho : DX X W o to) (hi : DX X W i ti) (ha : ∀ v, assign (.Subscript o i tpos) X.env v = (do
      let ov ← holding [v] (eval o X.env)
      let iv ← holding [v, ov] (eval i X.env)
      standAt tpos
      holding [v, ov, iv] (setItem ov iv v)
      release [v, ov, iv] []) := by intro _; rfl) (hs : swapsWithSole [.Subscript o i tpos] e pos.line X.env = pure false := by rfl) (hw : swappedStores [.Subscript o i tpos] e X.env = pure none := by rfl)
    (h1 : (assignEach [.Subscript o i tpos] X.env).map (·.2) = [assign (.Subscript o i tpos) X.env] := by rfl) : DS X W (.Assign [.Subscript o i tpos] e pos) (dSto te to ti) :=
  ds_sto hu he ho hi fun hS => ps_asg he (pg_sub ho hi hS ha) hs hw h1
end
end DL

set_option Elab.async false
set_option linter.all false
set_option autoImplicit false
set_option maxRecDepth 100000
set_option maxHeartbeats 2000000
/-! DL8: a def that hands out a def of its own (its cells stand apart), and the call of such a thing. -/
namespace DL
open PySem PySem.Spec L2 NdefX LamX

/-! ### cells as things -/
def CellO (c : Addr) (u : V) : HO := .ext fun h => ∃ x, L2.RelV u x ∧ h.IsCell c (some x)
theorem cellO_ok {P : Program} {w : World} {H : Hp} {h : Heap} {c : Addr} {u : V} (hc : ∃ x, L2.RelV u x ∧ h.IsCell c (some x)) : ObjOk P w H h c (CellO c u) := by
  obtain ⟨x, r, o, ho, hd⟩ := hc
  exact ⟨⟨x, r, o, ho, hd⟩, ⟨o, ho⟩, fun h1 h2 ⟨x, r, o, ho, hd⟩ k => ⟨x, r, o, k o ho, hd⟩⟩
theorem cellO_at {P : Program} {w : World} {H : Hp} {h : Heap} {c : Addr} {u : V} (ok : HOk P w H h) (e : H c = some (CellO c u)) : ∃ x, L2.RelV u x ∧ h.IsCell c (some x) := by
  obtain ⟨z, _, _⟩ := ok c _ e
  exact z
def hideH (cs : List Addr) (H : Hp) : Hp := fun b => if b ∈ cs then none else H b
def showH (cs : List Addr) (H H' : Hp) : Hp := fun b => if b ∈ cs then H b else H' b
def hideS (cs : List Addr) (S : IS) : IS := fun b => if b ∈ cs then none else S b
def showS (cs : List Addr) (S S' : IS) : IS := fun b => if b ∈ cs then S b else S' b
section
variable {P : Program} {w : World} {K : PySem.W.Frag} {H H' : Hp} {S S' : IS} {F F' : Hp} {h h' : Heap} {cs fs : List Addr} {b : Addr}
theorem hideH_in (hb : b ∈ cs) : hideH cs H b = none := if_pos hb
theorem hideH_out (hb : b ∉ cs) : hideH cs H b = H b := if_neg hb
theorem showH_in (hb : b ∈ cs) : showH cs H H' b = H b := if_pos hb
theorem showH_out (hb : b ∉ cs) : showH cs H H' b = H' b := if_neg hb
theorem hideS_in (hb : b ∈ cs) : hideS cs S b = none := if_pos hb
theorem hideS_out (hb : b ∉ cs) : hideS cs S b = S b := if_neg hb
theorem showS_in (hb : b ∈ cs) : showS cs S S' b = S b := if_pos hb
theorem showS_out (hb : b ∉ cs) : showS cs S S' b = S' b := if_neg hb
def CellsH (cs : List Addr) (H : Hp) : Prop := ∀ c ∈ cs, ∃ u, H c = some (CellO c u)
def CellsS (cs : List Addr) (S : IS) : Prop := ∀ c ∈ cs, ∃ u, S c = some (.raw (CellO c u))
theorem CellsS.toH (C : CellsS cs S) (r : Rel0 K H S F) : CellsH cs H := fun c hc => by
  obtain ⟨u, e⟩ := C c hc
  obtain ⟨o, h1, h2⟩ := r.io c _ e
  have h2 : CellO c u = o := h2
  exact ⟨u, by rw [h1, h2]⟩
theorem CellsH.not (C : CellsH cs H) {o : HO} (e : H b = some o) (ne : ∀ φ, o ≠ .ext φ) : b ∉ cs := fun hb => by
  obtain ⟨u, e'⟩ := C b hb
  rw [e] at e'
  exact ne _ (Option.some.inj e')
theorem CellsH.not0 (C : CellsH cs H) (e : H b = none) : b ∉ cs := fun hb => by
  obtain ⟨u, e'⟩ := C b hb
  rw [e] at e'
  cases e'
theorem hok_hide (ok : HOk P w H h) (C : CellsH cs H) : HOk P w (hideH cs H) h := fun b o e => by
  by_cases hb : b ∈ cs
  · rw [hideH_in hb] at e; cases e
  · rw [hideH_out hb] at e
    exact (ok b o e).stay (fun _ _ _ q => q) (fun c q => by rw [hideH_out (C.not q fun _ z => by cases z)]; exact q) fun c xs q => by rw [hideH_out (C.not q fun _ z => by cases z)]; exact q
theorem hok_show (ok : HOk P w H h) (C : CellsH cs H) (ok' : HOk P w H' h') (nn : ∀ c ∈ cs, H' c = none) (kp : ∀ c ∈ cs, ∀ o, h.get? c = some o → h'.get? c = some o) : HOk P w (showH cs H H') h' := fun b o e => by
  by_cases hb : b ∈ cs
  · rw [showH_in hb] at e
    obtain ⟨u, e'⟩ := C b hb
    rw [e] at e'; cases e'
    obtain ⟨x, r, o, ho, hd⟩ := cellO_at ok e
    exact cellO_ok ⟨x, r, o, kp b hb o ho, hd⟩
  · rw [showH_out hb] at e
    have out : ∀ c (o : HO), H' c = some o → c ∉ cs := fun c o q hc => by rw [nn c hc] at q; cases q
    exact (ok' b o e).stay (fun _ _ _ q => q) (fun c q => by rw [showH_out (out c _ q)]; exact q) fun c xs q => by rw [showH_out (out c _ q)]; exact q
theorem un_show (u : Un fs [] (hideH cs H) H' h h') (C : CellsH cs H) : Un fs [] H (showH cs H H') h h' := by
  have z : ∀ b, H b = none → hideH cs H b = none := fun b e => by rw [hideH_out (C.not0 e)]; exact e
  have y : ∀ b o, H b = some o → (∀ φ, o ≠ .ext φ) → b ∉ cs ∧ hideH cs H b = some o := fun b o e ne => ⟨C.not e ne, by rw [hideH_out (C.not e ne)]; exact e⟩
  refine ⟨fun b o e n => u.keep b o e (z b n), fun b o e n => u.slot b o e (z b n), fun b o e n hx => ?_, u.there, fun b xs e => ?_, fun b o v e => ?_, fun b ps e => ?_⟩
  · rw [showH_out (C.not0 n)]
    exact u.free b o e (z b n) hx
  · obtain ⟨y1, y2⟩ := y b _ e fun _ q => by cases q
    rw [showH_out y1]; exact u.tups b xs y2
  · obtain ⟨y1, y2⟩ := y b _ e fun _ q => by cases q
    rw [showH_out y1]; exact u.frzs b o v y2
  · obtain ⟨y1, y2⟩ := y b _ e fun _ q => by cases q
    rw [showH_out y1]; exact u.tbls b ps y2
theorem rel0_hide (r : Rel0 K H S F) (C : CellsS cs S) : Rel0 K (hideH cs H) (hideS cs S) F := by
  refine ⟨fun b o e => ?_, fun b i e => ?_, r.nt⟩
  · obtain ⟨h1, h2⟩ := r.fz b o e
    have hb : b ∉ cs := fun hb => by
      obtain ⟨u, q⟩ := C b hb
      rw [h2] at q; cases q
    exact ⟨by rw [hideH_out hb]; exact h1, by rw [hideS_out hb]; exact h2⟩
  · by_cases hb : b ∈ cs
    · rw [hideS_in hb] at e; cases e
    · rw [hideS_out hb] at e
      rw [hideH_out hb]
      exact r.io b i e
theorem after_show (r : Rel0 K H S F) (C : CellsS cs S) (A : After K (hideH cs H) (hideS cs S) F H' S' F') (nn : ∀ c ∈ cs, H' c = none) : After K H S F (showH cs H H') (showS cs S S') F' := by
  have CH := C.toH r
  refine ⟨⟨fun b o e => ?_, fun b i e => ?_, A.r0.nt⟩, A.same, fun b o e1 e0 e2 => ?_⟩
  · obtain ⟨h1, h2⟩ := A.r0.fz b o e
    have hb : b ∉ cs := fun hb => by rw [nn b hb] at h1; cases h1
    exact ⟨by rw [showH_out hb]; exact h1, by rw [showS_out hb]; exact h2⟩
  · by_cases hb : b ∈ cs
    · rw [showS_in hb] at e
      rw [showH_in hb]
      obtain ⟨u, q⟩ := C b hb
      rw [e] at q; cases q
      obtain ⟨o, h1, h2⟩ := r.io b _ e
      exact ⟨o, h1, h2⟩
    · rw [showS_out hb] at e
      rw [showH_out hb]
      exact A.r0.io b i e
  · have hb : b ∉ cs := fun hb => by
      obtain ⟨u, q⟩ := C b hb
      rw [e2] at q; cases q
    rw [showH_out hb, showS_out hb]
    exact A.keep b o (by rw [hideH_out hb]; exact e1) e0 (by rw [hideS_out hb]; exact e2)
end

/-! ### the thing that was handed out -/
structure CloAt (S : IS) (f : Addr) (F : NF) (fr : List Str) (us : List V) : Prop where
  fn : S f = some (.raw (FnO f F))
  co : S F.c = some (.raw (CodeO F.c F.qual))
  len : us.length = fr.length
  all : ∀ p ∈ F.cl, ∃ u, S p.2 = some (.raw (CellO p.2 u))
  inj : ∀ x y c, F.cl.lookup x = some c → F.cl.lookup y = some c → x = y
  has : ∀ (i : Nat) (y : Str), fr[i]? = some y → ∃ c u, F.cl.lookup y = some c ∧ us[i]? = some u ∧ S c = some (.raw (CellO c u))
abbrev csOf (F : NF) : List Addr := F.cl.map (·.2)
theorem CloAt.cells {S : IS} {f : Addr} {F : NF} {fr : List Str} {us : List V} (C : CloAt S f F fr us) : CellsS (csOf F) S := fun c hc => by
  obtain ⟨p, hp, e⟩ := List.mem_map.mp hc
  subst e
  exact C.all p hp
theorem raw_at {K : PySem.W.Frag} {H : Hp} {S : IS} {F : Hp} {a : Addr} {o : HO} (r : Rel0 K H S F) (e : S a = some (.raw o)) : H a = some o := by
  obtain ⟨u, h1, h2⟩ := r.io a _ e
  have h2 : o = u := h2
  rw [h1, h2]
/-- its promise -/
abbrev SpC := List V → List D → IS → DK → Prop
def NLSp (K : PySem.W.Frag) (us : List V) (sp : SpC) : List (Option V) → Sp := fun ws vs H Q _ => ws = us.map some ∧ ∃ ds S F Qd, Rel0 K H S F ∧ Dens K F vs ds ∧ sp us ds S Qd ∧ KOk K H S F Qd Q
def dCallV (Kd : NF → Prop) (fr : List Str) (sp : SpC) (i : Nat) (ta : DAt) : DE := fun ρ S Q E => ∃ f F us, ρ[i]? = some (some (.ref f)) ∧ CloAt S f F fr us ∧ Kd F ∧
  ta ρ S (fun ds S1 => CloAt S1 f F fr us ∧ sp us ds (hideS (csOf F) S1) (fun d S' => Q d (showS (csOf F) S1 S'))) E
theorem not_cell {P : Program} {w : World} {H : Hp} {h : Heap} {cs : List Addr} {f : Addr} {o : Obj} (ok : HOk P w H h) (C : CellsH cs H) (e : h.get? f = some o) (nd : ∀ v, o.data ≠ .cell v) : f ∉ cs := fun hf => by
  obtain ⟨u, e'⟩ := C f hf
  obtain ⟨x, r, o', ho, hd⟩ := cellO_at ok e'
  rw [e] at ho; cases ho
  exact nd _ hd
section
variable {X : Cx} {W : WX} {Kd : NF → Prop} {fr ps : List Str} {sp : SpC} {i j k : Nat} {x : Str} {p pos : Pos} {e : Expr} {es : List Expr} {ta : DAt}
theorem dx_callV (Fn : ∀ f F us, Kd F → NOk X.prog X.w X.K X.mg X.base (L2.CX X.prog X.w) k f F ps fr (NLSp X.K us sp)) (hr : Room j X.A) (hk : k ≤ j) (ha : DA X W (e :: es) ta) (hN : X.N[i]? = some x := by rfl) (hv : Vis X.env.scope x := by first | exact Or.inl rfl | exact Or.inr (Or.inl rfl) | exact Or.inr (Or.inr rfl))
    (hd : (x == ("__debug__" : Str)) = false := by decide) (hcd : (x == ("__classdict__" : Str)) = false := by decide)
    (he : starEach (e :: es) X.env = (false, eval e X.env) :: starEach es X.env := by rfl) (hpl : (backTo pos (starEach es X.env)).any (·.1) = false := by rfl) :
    DX X W (.Call (.Name x p) (e :: es) [] pos) (dCallV Kd fr sp i ta) := by
  refine ⟨fun pins s σ H Q I h => ?_⟩
  obtain ⟨ρ, S, F0, Qd, Ex, R, ⟨f, F, us, hi, C0, kd, hta⟩, kq, kw⟩ := h
  obtain ⟨v, hs, dn⟩ := R.sl i _ hi
  cases den_ref dn
  refine wpAny_Call_Name_kw (thn ((pe_var (pos := p) hN hv hd hcd).run pins s σ H (fun v H1 => v = .ref f ∧ H1 = H) I ⟨.ref f, hs, rfl, rfl⟩) fun u s1 ⟨v, H1, I1, r1, q1⟩ => ?_)
  obtain ⟨rfl, rfl⟩ := q1
  cases r1
  refine PySem.W.callWith_F (first := []) (fnAt_of I1 (raw_at R.r0 C0.fn)) (thn (ha.run pos pins s1 σ H1 (fun vs H2 => ∃ S2 F2 ds, After X.K H1 S F0 H2 S2 F2 ∧ Dens X.K F2 vs ds ∧ CloAt S2 f F fr us ∧ sp us ds (hideS (csOf F) S2) (fun d S' => Qd d (showS (csOf F) S2 S'))) I1
    ⟨ρ, S, F0, _, Ex, R, hta, fun vs H' S' F' ds A dn q => ⟨S', F', ds, A, dn, q⟩, kw⟩) fun us' s2 ⟨vs, H2, I2, r, S2, F2, ds, A, dn2, C2, q⟩ => ⟨fnAt_of I2 (raw_at A.r0 C2.fn), ?_⟩) he hpl
  show wpAny _ _ (call (.ref f) us') _ _ _
  have CS := C2.cells
  have CH := CS.toH A.r0
  have hf2 := raw_at A.r0 C2.fn
  have hc2 := raw_at A.r0 C2.co
  have nf : f ∉ csOf F := by
    obtain ⟨od, sl, doc, pm, ctv, ho⟩ := fnO_at I2.hok hf2
    exact not_cell I2.hok CH ho fun v z => by cases z
  have nc : F.c ∉ csOf F := by
    obtain ⟨c, oc, vs', t, e1, h1, h2, h3⟩ := codeO_at I2.hok hc2
    cases e1
    exact not_cell I2.hok CH h1 fun v z => by rw [h2] at z; cases z
  have e0 := I2.env0
  have e0' : Env0 X.prog X.w X.K X.mg X.base X.A X.stack s2 (hideH (csOf F) H2) := ⟨e0.frames, e0.mod, fun b o q => ⟨(e0.bs b o q).1, by rw [hideH_out (CH.not0 (e0.bs b o q).2)]; exact (e0.bs b o q).2⟩, e0.bsz, e0.funs, fun b hb => by rw [hideH_out (CH.not0 (e0.frf b hb))]; exact e0.frf b hb, hok_hide e0.hok CH, e0.bare⟩
  have CA : CellsAt F.cl fr (us.map some) s2.heap (hideH (csOf F) H2) := by
    refine ⟨by rw [List.length_map]; exact C2.len, fun y c hl => ?_, C2.inj, fun i y hy => ?_⟩
    · have hm : c ∈ csOf F := List.mem_map.mpr ⟨_, PySem.mem_of_lookup hl, rfl⟩
      obtain ⟨u, q⟩ := CH c hm
      obtain ⟨x, _, z⟩ := cellO_at I2.hok q
      exact ⟨hideH_in hm, _, z⟩
    · obtain ⟨c, u, h1, h2, h3⟩ := C2.has i y hy
      refine ⟨c, h1, fun v ev => ?_⟩
      rw [List.getElem?_map, h2] at ev
      cases ev
      exact cellO_at I2.hok (raw_at A.r0 h3)
  refine wpAny_call (codeAny_mono ((Fn f F us kd).run X.A X.stack s2 (hideH (csOf F) H2) us' vs (us.map some) (fun v H' => ∃ S' F' d, After X.K (hideH (csOf F) H2) (hideS (csOf F) S2) F2 H' S' F' ∧ Den X.K F' v d ∧ Qd d (showS (csOf F) S2 S')) (fun _ _ _ => False) (hr.mono hk) e0'
    (by rw [hideH_out nf]; exact hf2) (by rw [hideH_out nc]; exact hc2) CA r ⟨rfl, ds, _, F2, _, rel0_hide A.r0 CS, dn2, q, fun v H' S' F' d A' dn' q' => ⟨S', F', d, A', dn', q'⟩⟩) fun r s' hq => ?_)
  cases r with
  | error e =>
    obtain ⟨_, _, _, _, _, _, _, _, _, _, _, _, z⟩ := hq
    exact z.elim
  | ok fl =>
    cases fl with
    | next => exact False.elim hq
    | brk => exact False.elim hq
    | cont => exact False.elim hq
    | ret u =>
      obtain ⟨v, H', os, bare, un, hok, rv, S', F', d, A', dn', q'⟩ := hq
      have nn : ∀ c ∈ csOf F, H' c = none := fun c hc => by
        obtain ⟨u', q⟩ := CH c hc
        obtain ⟨x, _, o, ho, _⟩ := cellO_at I2.hok q
        exact un.free c o ho (hideH_in hc) (by simp)
      have kp : ∀ c ∈ csOf F, ∀ o, s2.heap.get? c = some o → s'.heap.get? c = some o := fun c hc o ho => by
        have nfs : c ∉ frs X.stack := fun z => by
          obtain ⟨u', q⟩ := CH c hc
          rw [I2.stkFree c z] at q; cases q
        exact un.keep c o ho (hideH_in hc) nfs (by simp)
      have AA := after_show A.r0 CS A' nn
      exact I2.after ⟨v, showH (csOf F) H2 H', os, bare, un_show un CH, hok_show I2.hok CH hok nn kp, rv, kq _ _ _ _ _ (A.trans AA) dn' q'⟩
/-- the promise of a def in a def, by its body -/
theorem nok_d {P : Program} {w : World} {K : PySem.W.Frag} {mg : Str → Option Value} {base : Heap} {N : List Str} {F : NF} {f : Addr} {us : List V} {ud : List D} {t : DSt} (Sc : NScope N ps fr F.scope)
    (hb : ∀ (doc pm ctv : Value) (us : List Value), us.length = ps.length → bindArgs (F.fd doc pm ctv) ⟨us, []⟩ = pure (ps.zip us)) (len : ∀ ds S Q, sp us ds S Q → ds.length = ps.length) (hud : ∀ F : Hp, Dens K F us ud)
    (hbody : ∀ (X : Cx) (A : Around) (outer : List Env) (s : Shared) (H : Hp) (E : XK), Room k (A.deeper (envF F f s.heap.objs.size)) → X = ncx (L2.CX P w) P w K mg base N F f A outer s H E → DSs X W0 F.body t)
    (hread : ∀ ds S Q, sp us ds S Q → t (retE Q (fun _ _ _ => False)) (ds.map some ++ (ud.map some ++ List.replicate (N.length - ds.length - ud.length) none)) S) :
    NOk P w K mg base (L2.CX P w) (k + 1) f F ps fr (NLSp K us sp) := by
  refine nok_of Sc hb (fun ws vs H Q E h => ?_) (fun A outer s H vs ws Q E hr hf hc hw h => ?_)
  · obtain ⟨_, ds, S, F', Qd, r0, dn, h, _⟩ := h
    rw [dn.length]
    exact len ds S Qd h
  · obtain ⟨rfl, ds, S, F', Qd, r0, dn, h, kq⟩ := h
    refine ⟨_, hbody _ A outer s H E hr rfl, ?_⟩
    have du := hud F'
    refine ⟨_, S, F', retE Qd (fun _ _ _ => False), ?_, hread ds S Qd h, ⟨?_, ?_, ?_, kq, ?_⟩⟩
    · refine ⟨r0, by simp [startF, dn.length, du.length], fun i d e => ?_⟩
      unfold startF
      have hl := dn.length
      have hl2 := du.length
      by_cases h1 : i < ds.length
      · rw [List.getElem?_append_left (by simpa using h1), List.getElem?_map] at e
        rw [List.getElem?_append_left (by simp; omega), List.getElem?_map]
        cases q : ds[i]? with
        | none => rw [q] at e; cases e
        | some d' =>
          rw [q] at e; cases e
          obtain ⟨v, e1, e2⟩ := dn.get q
          exact ⟨v, by rw [e1]; rfl, e2⟩
      · rw [List.getElem?_append_right (by simp; omega)] at e ⊢
        · by_cases h2 : i - ds.length < ud.length
          · rw [List.getElem?_append_left (by simp; omega), List.getElem?_map] at e
            rw [List.getElem?_append_left (by simp; omega), List.getElem?_map]
            simp only [List.length_map] at e ⊢
            rw [hl]
            cases q : ud[i - ds.length]? with
            | none => rw [q] at e; cases e
            | some d' =>
              rw [q] at e; cases e
              obtain ⟨v, e1, e2⟩ := du.get q
              exact ⟨v, by rw [e1]; rfl, e2⟩
          · rw [List.getElem?_append_right (by simp; omega), List.getElem?_replicate] at e
            split at e <;> cases e
    · exact fun σ' H' ρ' S' F2 a R q => kq _ H' S' F2 _ a .non q
    · exact fun σ' H' ρ' S' F2 a R q => q.elim
    · exact fun σ' H' ρ' S' F2 a R q => q.elim
    · exact fun cls dd xa σ' H' ρ' S' F2 a R z q => q.elim
end
end DL

set_option Elab.async false
set_option linter.all false
set_option autoImplicit false
set_option maxRecDepth 100000
set_option maxHeartbeats 2000000
/-! DL9: the def that hands out a def of its own. -/
namespace DL
open PySem PySem.Spec L2 NdefX LamX

/-- a code table with its code objects, all of one name -/
def TabD (S : IS) (P : Addr) (q : Str) : Prop := ∃ ps : Array Value, S P = some (.raw (.tbl ps)) ∧ TriplesOk ps.toList ∧ ∀ (pos : Pos) (cv : Value), codeAmong pos ps.toList = some cv → ∃ c, cv = .ref c ∧ S c = some (.raw (CodeO c q))
section
variable {X : Cx} {pins : List (Addr × Obj)} {σ : L2.St} {H : Hp} {s : Shared}
theorem nd_make {c P : Addr} {name : Str} {params : Arguments} {body : List Stmt} {scope : Scope} {pos : Pos} {ps : Array Value} {E : Value → Shared → Prop} {Q : Value → Shared → Prop} (I : Inv X pins σ H s) (TB : TabB X.base X.mg c P) (hcode : X.env.code = .ref c)
    (hP : H P = some (.tbl ps)) (ht : TriplesOk ps.toList) (ha : ∀ (pos : Pos) (cv : Value), codeAmong pos ps.toList = some cv → ∃ c, cv = .ref c ∧ H c = some (CodeO c (X.env.qual ++ name))) (hfree : ∀ y ∈ scope.names, y.2 = .free → ∃ c, X.env.cells.lookup y.1 = some c)
    (hA : ∀ (f c' : Addr) (s' : Shared), codeAmong pos ps.toList = some (.ref c') → H f = none → Inv X pins σ (upd H f (FnO f ⟨name, X.env.qual ++ name, params, body, scope, cloFrom X.env.cells scope.names [], c'⟩)) s' → Q (.ref f) s')
    (hB : ∀ (f c' : Addr) (more : Array Value) (s' : Shared), TriplesOk (ps ++ more).toList → (∀ (pos : Pos) (cv : Value), codeAmong pos (ps ++ more).toList = some cv → codeAmong pos ps.toList = some cv ∨ cv = .ref c') → H c' = none → H f = none → f ≠ c' →
      Inv X pins σ (upd (upd (upd H P (.tbl (ps ++ more))) c' (CodeO c' (X.env.qual ++ name))) f (FnO f ⟨name, X.env.qual ++ name, params, body, scope, cloFrom X.env.cells scope.names [], c'⟩)) s' → Q (.ref f) s') :
    wpAny (model X.prog X.w) X.A (makeFunction name (X.env.qual ++ name) params (.stmts body) scope X.env [] [] [] pos pos.line) Q E s := by
  have bP : s.heap.BuiltinsAt X.mg P := TB.bm.keeps I.bk
  have hP' : s.heap.get? P = some { cls := .none, data := .fields ps } := I.hok P _ hP
  cases hc : codeAmong pos ps.toList with
  | some cv =>
    obtain ⟨c', e, hco⟩ := ha pos cv hc
    subst e
    refine PySem.W.makeFunction_hit (mg := X.mg) (c := c) (P := P) (ps := ps) (closure_ok hfree) I.ok.glob (I.mod.glob.keeps I.bk) hcode (TB.code.keeps I.bk) hP' ht hc bP fun ctv doc h' tk hx hsz => ?_
    have I1 : Inv X pins σ H { s with heap := h', toks := tk } := I.kept hx
    exact hA h'.objs.size c' _ hc (I1.hok.fresh (Nat.le_refl _)) (inv_fn (t' := tk) (doc := doc) (pm := (X.mg "__name__").getD .none) (ctv := ctv) I1 rfl)
  | none =>
    refine PySem.W.makeFunction_K (mg := X.mg) (c := c) (P := P) (ps := ps) (closure_ok hfree) I.ok.glob (I.mod.glob.keeps I.bk) hcode (TB.code.keeps I.bk) hP' ht hc TB.gP bP fun c' ctv doc h' tk hx hge hlt hrec htb => ?_
    obtain ⟨c2, oc, vs, t, e2, hoc, hd, hv⟩ := hrec
    cases e2
    have nC : H c' = none := I.hok.fresh hge
    have nF : H h'.objs.size = none := I.hok.fresh (Nat.le_trans hge (Nat.le_of_lt hlt))
    have I1 := inv_table (t' := tk) (more := #[rawInt pos.line, rawInt pos.col, .ref c']) (h' := h') I hP (fun b o hb e => hx b o hb e) htb hge ⟨oc, vs, t, hoc, hd, hv⟩
    have eL : (ps ++ #[rawInt pos.line, rawInt pos.col, .ref c']).toList = ps.toList ++ [rawInt pos.line, rawInt pos.col, .ref c'] := by simp
    refine hB h'.objs.size c' #[rawInt pos.line, rawInt pos.col, .ref c'] _ (by rw [eL]; exact PySem.TriplesOk_snoc _ _ _ _ ht) (fun p' cv hcv => ?_) nC nF (Nat.ne_of_gt hlt) (inv_fn (t' := tk) (doc := doc) (pm := (X.mg "__name__").getD .none) (ctv := ctv) I1 rfl)
    rw [eL] at hcv
    exact among_app _ ht hcv
end

/-! ### cells that are told behind the def's end -/
def addH (g : Addr → Option V) (H : Hp) : Hp := fun b => match g b with
  | some u => some (CellO b u)
  | none => H b
def addS (g : Addr → Option V) (S : IS) : IS := fun b => match g b with
  | some u => some (.raw (CellO b u))
  | none => S b
section
variable {P : Program} {w : World} {K : PySem.W.Frag} {H H0 : Hp} {S S0 : IS} {F F0 : Hp} {h h0 : Heap} {fs : List Addr} {g : Addr → Option V} {b : Addr}
theorem addH_some {u : V} (e : g b = some u) : addH g H b = some (CellO b u) := by unfold addH; rw [e]
theorem addH_none (e : g b = none) : addH g H b = H b := by unfold addH; rw [e]
theorem addS_some {u : V} (e : g b = some u) : addS g S b = some (.raw (CellO b u)) := by unfold addS; rw [e]
theorem addS_none (e : g b = none) : addS g S b = S b := by unfold addS; rw [e]
theorem g_out (hg : ∀ b u, g b = some u → H b = none) {o : HO} (e : H b = some o) : g b = none := by
  cases q : g b with
  | none => rfl
  | some u => rw [hg b u q] at e; cases e
theorem hok_add (ok : HOk P w H h) (hg : ∀ b u, g b = some u → H b = none) (hc : ∀ b u, g b = some u → ∃ x, L2.RelV u x ∧ h.IsCell b (some x)) : HOk P w (addH g H) h := fun b o e => by
  cases q : g b with
  | some u =>
    rw [addH_some q] at e
    cases e
    exact cellO_ok (hc b u q)
  | none =>
    rw [addH_none q] at e
    exact (ok b o e).stay (fun _ _ _ q => q) (fun c q => by rw [addH_none (g_out hg q)]; exact q) fun c xs q => by rw [addH_none (g_out hg q)]; exact q
theorem un_add (u : Un fs [] H0 H h0 h) (hg : ∀ b u, g b = some u → H b = none) (hn : ∀ b u, g b = some u → h0.objs.size ≤ b) : Un fs [] H0 (addH g H) h0 h := by
  refine ⟨u.keep, u.slot, fun b o e n hx => ?_, u.there, fun b xs e => ?_, fun b o v e => ?_, fun b ps e => ?_⟩
  · have q : g b = none := by
      cases q : g b with
      | none => rfl
      | some v => exact absurd (Nat.lt_of_lt_of_le (Heap.lt_size e) (hn b v q)) (Nat.lt_irrefl _)
    rw [addH_none q]
    exact u.free b o e n hx
  · have z := u.tups b xs e
    rw [addH_none (g_out hg z)]; exact z
  · have z := u.frzs b o v e
    rw [addH_none (g_out hg z)]; exact z
  · obtain ⟨more, z⟩ := u.tbls b ps e
    exact ⟨more, by rw [addH_none (g_out hg z)]; exact z⟩
theorem after_add (A : After K H0 S0 F0 H S F) (hg : ∀ b u, g b = some u → H b = none) : After K H0 S0 F0 (addH g H) (addS g S) F := by
  refine ⟨⟨fun b o e => ?_, fun b i e => ?_, A.r0.nt⟩, A.same, fun b o e1 e0 e2 => ?_⟩
  · obtain ⟨h1, h2⟩ := A.r0.fz b o e
    have q := g_out hg h1
    exact ⟨by rw [addH_none q]; exact h1, by rw [addS_none q]; exact h2⟩
  · cases q : g b with
    | some u =>
      rw [addS_some q] at e
      cases e
      exact ⟨_, addH_some q, rfl⟩
    | none =>
      rw [addS_none q] at e
      rw [addH_none q]
      exact A.r0.io b i e
  · obtain ⟨h1, h2, h3⟩ := A.keep b o e1 e0 e2
    have q := g_out hg h1
    exact ⟨by rw [addH_none q]; exact h1, by rw [addS_none q]; exact h2, h3⟩
end
/-- which cell holds what -/
def Told (cells : List (Str × Addr)) (fr : List Str) (us : List V) (b : Addr) (u : V) : Prop := ∃ (i : Nat) (y : Str), fr[i]? = some y ∧ cells.lookup y = some b ∧ us[i]? = some u
open Classical in
noncomputable def toldG (cells : List (Str × Addr)) (fr : List Str) (us : List V) : Addr → Option V := fun b => if h : ∃ u, Told cells fr us b u then some (Classical.choose h) else none
section
variable {cells : List (Str × Addr)} {fr : List Str} {us : List V} {b : Addr} {u : V}
theorem toldG_of (h : toldG cells fr us b = some u) : Told cells fr us b u := by
  unfold toldG at h
  split at h
  · rename_i z
    cases h
    exact Classical.choose_spec z
  · cases h
theorem toldG_at (inj : ∀ x y c, cells.lookup x = some c → cells.lookup y = some c → x = y) (nd : fr.Nodup) (t : Told cells fr us b u) : toldG cells fr us b = some u := by
  have z : ∃ u, Told cells fr us b u := ⟨u, t⟩
  unfold toldG
  rw [dif_pos z]
  obtain ⟨i, y, h1, h2, h3⟩ := t
  obtain ⟨i', y', g1, g2, g3⟩ := Classical.choose_spec z
  have ey := inj _ _ _ h2 g2
  subst ey
  have ei : i = i' := (List.getElem?_inj (List.getElem?_eq_some_iff.mp h1).1 nd).mp (h1.trans g1.symm)
  subst ei
  rw [h3] at g3
  exact g3.symm
end
theorem Rel0.onS {K : PySem.W.Frag} {H : Hp} {S : IS} {F : Hp} (r : Rel0 K H S F) {b : Addr} (e : S b ≠ none) : H b ≠ none := by
  cases q : S b with
  | none => exact absurd q e
  | some i =>
    obtain ⟨o, h1, _⟩ := r.io b i q
    rw [h1]
    exact fun z => by cases z
theorem updS_ne' {S : IS} {a b : Addr} {o : IO} (h : b ≠ a) : updS S a o b = S b := updS_ne h
/-- behind st1: the table, what the captured names hold, what comes of it -/
def cloNx (st2 : Stmt) (name q : Str) (P0 : Addr) (fr : List Str) (js : List Nat) (Q : DK) : Rho → IS → Prop := fun ρ S1 => TabD S1 P0 q ∧ ∃ us : List V, us.length = fr.length ∧
  (∀ (m j : Nat), js[m]? = some j → ∃ (d : D) (u : V), ρ[j]? = some (some d) ∧ us[m]? = some u ∧ ∀ (K : PySem.W.Frag) (F : Hp) (v : V), Den K F v d → v = u) ∧
  ∀ (f : Addr) (F : NF) (S2 : IS), (∃ cl c, F = NF.of st2 name q cl c) → CloAt S2 f F fr us → TabD S2 P0 q → (∀ b, S1 b ≠ none → b ≠ P0 → S2 b = S1 b) → Q (.ref f) S2
open PyProof.Rows in
/-- THE RULE for a def whose body is «st1; def name; return name» -/
theorem fn_clo {P : Program} {w : World} {K : PySem.W.Frag} {mg : Str → Option Value} {base : Heap} {x qual name : Str} {st st1 st2 : Stmt} {f₀ : Addr} {dV kV doc pm ct oc : Value} {an od : Option Addr} {osl : Array (Option Value)} {cd P0 : Addr}
    {N ps fr : List Str} {js : List Nat} {k i : Nat} {sp : SpD} {t1 : DSt} {p pos pos2 : Pos}
    (lk : K.lookup f₀ = some ⟨oc, od, .func (PySem.W.fnOf x qual (defArgs st) (defBody st) (defScope st) dV kV doc pm an (.ref cd) ct), osl⟩) (hcd : PySem.W.codeIn K (.ref cd) qual = true) (Sc : FnScope N ps (defScope st))
    (hbd : defBody st = [st1, st2, .Return (some (.Name name p)) pos]) (hst : st2 = .FunctionDef name (C8.fnArgs st2) (C8.fnBody st2) [] none [] (C8.fnScope st2) none name pos2)
    (TB : TabB base mg cd P0) (len : ∀ ds S Q E, sp ds S Q E → ds.length = ps.length)
    (hi : N[i]? = some name) (hloc : (defScope st).names.lookup name = some .local) (hij : i ∉ js) (hjs : js.map (fun j => N[j]?) = fr.map some) (hnd : fr.Nodup)
    (hfree : ∀ y ∈ (C8.fnScope st2).names, y.2 = .free → y.1 ∈ fr) (hfr : ∀ y ∈ fr, (y, NameKind.free) ∈ (C8.fnScope st2).names) (hcell : ∀ y ∈ fr, (defScope st).names.lookup y = some .cell)
    (hd0 : (C8.fnArgs st2).defaults = []) (hk0 : (C8.fnArgs st2).kw_defaults = []) (ha : ∀ env, annTrees (C8.fnArgs st2) none env = []) (hdb : (name == ("__debug__" : Str)) = false) (hcdn : (name == ("__classdict__" : Str)) = false)
    (hbody : ∀ (X : Cx) (W : WX) (A : Around) (outer : List Env) (s : Shared) (H : Hp) (E : XK), Room k (A.deeper (PyProof.Rows.envOfC qual (defScope st) s.heap.objs.size f₀ (.ref cd))) →
      X = cxOf (L2.CX P w) P w K mg base N qual (defScope st) f₀ (.ref cd) A outer s H E → Takes X W → PassesOwn (model X.prog X.w) X.A X.env X.xe → DS X W st1 t1)
    (hread : ∀ ds S Q E, sp ds S Q E → t1 (DEnds.mk (cloNx st2 name (qual ++ ".<locals>." ++ name) P0 fr js Q) (fun _ _ => False) (fun cls xa _ S' => E cls xa S') (fun _ _ => False) (fun _ _ => False)) (startD N ds) S) :
    FnD P w K mg base (k + 1) f₀ (PySem.W.fnOf x qual (defArgs st) (defBody st) (defScope st) dV kV doc pm an (.ref cd) ct) ps sp := by
  refine ⟨fun vs H Q E h => ?_, fun A outer s H args us vs Q E hr e0 hb r hsp => ?_⟩
  · obtain ⟨ds, S, F', Qd, Ed, r0, dn, h, _⟩ := h
    rw [dn.length]
    exact len ds S Qd Ed h
  obtain ⟨ds, S, F0, Qd, Ed, r0, dn, hs, kq, kx⟩ := hsp
  have hl : vs.length = ps.length := by rw [dn.length]; exact len ds S Qd Ed hs
  have KX : K.In s.heap := e0.mod.kin.keeps fun b o e => (e0.bs b o e).1
  have lim : s.heap.NoLimit := e0.mod.nolimit.keeps fun b o e => (e0.bs b o e).1
  have hkind : ∀ y ∈ ps.zip us, (defScope st).names.lookup y.1 = some .local ∨ ((defScope st).names.lookup y.1 = some .cell ∧ ((cellsFrom (s.heap.objs.size + 1) (defScope st).names []).lookup y.1).isSome = true) := fun ⟨n, v⟩ hy => by
    rcases Sc.par n (List.of_mem_zip hy).1 with q | q
    · exact .inl q
    · exact .inr ⟨q, PySem.W.cellsFrom_some _ _ _ (.inl q)⟩
  refine codeAny_call_function hr.depth (KX _ _ lk) rfl Sc.co Sc.gen rfl (PySem.W.codeRec_of KX hcd) (hb _ _ _ _ ?_)
  refine wpAny_newFunctionEnv_cells Sc.kind hkind fun env he s1 x0 => ?_
  subst he
  refine ⟨lim.keeps x0.toInCall.keep, codeAny_func ?_⟩
  have I : Inv (cxOf (L2.CX P w) P w K mg base N qual (defScope st) f₀ (.ref cd) A outer s H E) [] (L2.start N vs) H s1 := inv_start Sc hr.hd e0 hl r x0
  have tk : Takes (cxOf (L2.CX P w) P w K mg base N qual (defScope st) f₀ (.ref cd) A outer s H E) (fun cls d _ H' => E cls d H') := takes_of rfl rfl rfl rfl
  have h1 := hbody _ _ A outer s H E (hr.deeper _) rfl tk (passes_of rfl)
  generalize eX : cxOf (L2.CX P w) P w K mg base N qual (defScope st) f₀ (.ref cd) A outer s H E = X at I tk h1
  have eEnv : X.env = PyProof.Rows.envOfC qual (defScope st) s.heap.objs.size f₀ (.ref cd) := by rw [← eX]; rfl
  have eN : X.N = N := by rw [← eX]; rfl
  have eK : X.K = K := by rw [← eX]; rfl
  have eq : X.env.qual = qual ++ ".<locals>." := by rw [eEnv]; rfl
  have esc : X.env.scope = defScope st := by rw [eEnv]; rfl
  have hR := hread ds S Qd Ed hs
  have hW : WOk K (fun cls d _ H' => E cls d H') (L2.start N vs) H S F0 (fun cls xa S' => Ed cls xa S') := fun cls dd xa H' S' F' a z q => kx cls dd xa H' S' F' a z q
  let D1 : Ends := { nx := fun σ1 H1 => ∃ ρ1 S1 F1, After K H S F0 H1 S1 F1 ∧ Rel K σ1 H1 ρ1 S1 F1 ∧ cloNx st2 name (qual ++ ".<locals>." ++ name) P0 fr js Qd ρ1 S1, rt := fun _ _ => False }
  have hq1 : cTS X.K (fun cls d _ H' => E cls d H') t1 D1 (L2.start N vs) H := by
    rw [eK]
    refine ⟨startD N ds, S, F0, _, rel_start r0 dn, hR, ⟨?_, ?_, ?_, ?_, ?_⟩⟩
    · exact fun σ' H' ρ' S' F2 a R q => ⟨ρ', S', F2, a, R, q⟩
    · exact fun σ' H' ρ' S' F2 a R q => q.elim
    · exact fun σ' H' ρ' S' F2 a R q => q.elim
    · exact fun v H' S' F' d a dn q => q.elim
    · exact fun cls dd xa σ' H' ρ' S' F2 a R z q => kx cls dd xa H' S' F2 a z q
  have goal : wpAny (model X.prog X.w) X.A (execs (defBody st) X.env) (fun fl s' => ∃ u, fl = .ret u ∧ CE outer P w H s Q u s') X.xe s1 := by
    rw [hbd]
    refine wpAny_execs_cons (thn (h1.run [] s1 _ H D1 I hq1) fun fl s2 q => ?_)
    cases fl with
    | ret u => obtain ⟨_, _, _, _, _, z⟩ := q; exact z.elim
    | brk => obtain ⟨_, _, _, z⟩ := q; exact z.elim
    | cont => obtain ⟨_, _, _, z⟩ := q; exact z.elim
    | next =>
      obtain ⟨σ1, H1, I1, ρ1, S1, F1, A1, R1, ⟨tps, tS, tT, tC⟩, us', ul, ug, kk⟩ := q
      have ePr : X.prog = P ∧ X.w = w := by rw [← eX]; exact ⟨rfl, rfl⟩
      have eH0 : X.H_0 = H ∧ X.s_0 = s ∧ X.ex = [] ∧ X.outer = outer := by rw [← eX]; exact ⟨rfl, rfl, rfl, rfl⟩
      have eqn : X.env.qual ++ name = qual ++ ".<locals>." ++ name := by rw [eq]
      have TB' : TabB X.base X.mg cd P0 := by rw [← eX]; exact TB
      have hcode : X.env.code = .ref cd := by rw [eEnv]; rfl
      have hkl : X.env.scope.names.lookup name = some .local := by rw [esc]; exact hloc
      have hqn : qualnameIn X.env name name = X.env.qual ++ name := by
        unfold qualnameIn
        have k0 : X.env.kindOf name = some .local := hkl
        rw [k0] <;> rfl
      have hP1 := raw_at R1.r0 tS
      have hfr0 : ∀ y ∈ (C8.fnScope st2).names, y.2 = .free → ∃ c, X.env.cells.lookup y.1 = some c := fun y hy e => I1.ok.has _ (.inl (by show X.env.scope.names.lookup y.1 = _; rw [esc]; exact hcell _ (hfree y hy e)))
      -- behind the making
      have fin : ∀ (f' c' : Addr) (H2 : Hp) (S2 : IS) (s3 : Shared), Inv X [] σ1 H2 s3 → After K H1 S1 F1 H2 S2 F1 → H1 f' = none → S2 f' = some (.raw (FnO f' (NF.of st2 name (qual ++ ".<locals>." ++ name) (cloFrom X.env.cells (C8.fnScope st2).names []) c'))) → S2 c' = some (.raw (CodeO c' (qual ++ ".<locals>." ++ name))) →
          TabD S2 P0 (qual ++ ".<locals>." ++ name) → (∀ b, S1 b ≠ none → b ≠ P0 → S2 b = S1 b) →
          wpAny (model X.prog X.w) X.A (storeName X.env name (.ref f')) (fun _ s'' => wpAny (model X.prog X.w) X.A (execs [.Return (some (.Name name p)) pos] X.env) (fun fl s' => ∃ u, fl = .ret u ∧ CE outer P w H s Q u s') X.xe s'') X.xe s3 := by
        intro f' c' H2 S2 s3 I2 A2 nf sF sC tD same
        have hi' : X.N[i]? = some name := by rw [eN]; exact hi
        have lenI := I1.len
        have iN : i < σ1.length := by rw [lenI]; exact (List.getElem?_eq_some_iff.mp hi').1
        refine store_ok I2 (by rw [eN]; exact Sc.nd) hi' (Or.inl hkl) (v := .ref f') rfl (fun s4 J => ?_) (.inr hkl)
        refine wpAny_execs_cons (wpAny_Return_some (thn ((pe_var (pos := p) hi' (Or.inl hkl) hdb hcdn).run [] s4 _ H2 (fun v H' => v = .ref f' ∧ H' = H2) J ⟨.ref f', by rw [List.getElem?_set_self iN], rfl, rfl⟩) fun u s5 ⟨v, H3, J2, rv, ev, eH⟩ => ?_))
        subst ev
        subst eH
        have scell : ∀ y ∈ fr, X.env.scope.names.lookup y = some .cell := fun y hy => by rw [esc]; exact hcell y hy
        have inj := J2.ok.inj
        have slot : ∀ (m : Nat) (y : Str), fr[m]? = some y → ∃ j, js[m]? = some j ∧ X.N[j]? = some y := fun m y hy => by
          have e2 : (js.map fun j => N[j]?)[m]? = some (some y) := by
            rw [hjs, List.getElem?_map, hy] <;> rfl
          rw [List.getElem?_map] at e2
          cases ej : js[m]? with
          | none => rw [ej] at e2; cases e2
          | some j =>
            rw [ej] at e2
            exact ⟨j, rfl, by rw [eN]; exact Option.some.inj (show some (N[j]?) = some (some y) from e2)⟩
        have gf : ∀ b u, toldG X.env.cells fr us' b = some u → H3 b = none ∧ (∃ x, L2.RelV u x ∧ s5.heap.IsCell b (some x)) ∧ s.heap.objs.size ≤ b := fun b u e => by
          obtain ⟨m, y, h1, h2, h3⟩ := toldG_of e
          have hy := List.mem_of_getElem? h1
          refine ⟨J2.freeC y b h2, ?_, ?_⟩
          · obtain ⟨j, j1, j2⟩ := slot m y h1
            obtain ⟨d, u2, g1, g2, g3⟩ := ug m j j1
            rw [h3] at g2
            cases g2
            obtain ⟨v, v1, v2⟩ := R1.sl j d g1
            have ev := g3 _ _ _ v2
            subst ev
            have hne : j ≠ i := fun z => hij (by rw [← z]; exact List.mem_of_getElem? j1)
            obtain ⟨mm, hn, hlk⟩ := J2.loc
            obtain ⟨u', r', lk'⟩ := hlk j y v j2 (by rw [List.getElem?_set_ne (Ne.symm hne)]; exact v1) (.inr (.inl (scell y hy)))
            rcases lk' with ⟨z, _⟩ | ⟨_, a', ha', hc'⟩
            · have z' : X.env.scope.names.lookup y = some .local := z
              rw [scell y hy] at z'; cases z'
            · rw [h2] at ha'; cases ha'
              exact ⟨u', r', hc'⟩
          · have q := J2.ok.cab y b (by rw [← eX]; rfl) h2
            rw [eH0.2.1] at q
            exact q
        have hg0 : ∀ b u, toldG X.env.cells fr us' b = some u → H3 b = none := fun b u e => (gf b u e).1
        have AA := after_add (A1.trans A2) hg0
        have keepS : ∀ b, S2 b ≠ none → addS (toldG X.env.cells fr us') S2 b = S2 b := fun b e => by
          have z := A2.r0.onS e
          cases q : H3 b with
          | none => exact absurd q z
          | some o => exact addS_none (g_out hg0 q)
        have hfrc : ∀ y ∈ fr, ∃ c, X.env.cells.lookup y = some c := fun y hy => J2.ok.has y (.inl (scell y hy))
        have told : ∀ (m : Nat) (y : Str) (c : Addr), fr[m]? = some y → X.env.cells.lookup y = some c → ∃ u, us'[m]? = some u ∧ addS (toldG X.env.cells fr us') S2 c = some (.raw (CellO c u)) := fun m y c h1 h2 => by
          have hm : m < us'.length := by rw [ul]; exact (List.getElem?_eq_some_iff.mp h1).1
          refine ⟨us'[m], List.getElem?_eq_getElem hm, addS_some (toldG_at inj hnd ⟨m, y, h1, h2, List.getElem?_eq_getElem hm⟩)⟩
        have hfr1 : ∀ y ∈ (C8.fnScope st2).names, y.2 = .free → ∃ c, X.env.cells.lookup y.1 = some c := hfr0
        have clo : CloAt (addS (toldG X.env.cells fr us') S2) f' (NF.of st2 name (qual ++ ".<locals>." ++ name) (cloFrom X.env.cells (C8.fnScope st2).names []) c') fr us' := by
          refine ⟨by rw [keepS _ (by rw [sF]; exact fun z => by cases z)]; exact sF, ?_, ul, fun q hq => ?_, fun a b c h1 h2 => inj a b c (clo_cm hfr1 h1) (clo_cm hfr1 h2), fun m y hy => ?_⟩
          · show addS _ S2 c' = _
            rw [keepS _ (by rw [sC]; exact fun z => by cases z)]
            exact sC
          · have hq' : (q.1, q.2) ∈ cloFrom X.env.cells (C8.fnScope st2).names [] := hq
            rcases cloFrom_mem hq' with z | ⟨z1, z2⟩
            · cases z
            · have hy := hfree _ z1 rfl
              obtain ⟨m, hm⟩ := List.mem_iff_getElem?.mp hy
              obtain ⟨c, hc⟩ := hfrc _ hy
              have ec : q.2 = c := by
                rw [z2]
                show (X.env.cells.lookup q.1).getD 0 = c
                rw [show X.env.cells.lookup q.1 = some c from hc] <;> rfl
              obtain ⟨u, _, e2⟩ := told m _ c hm hc
              exact ⟨u, by rw [ec]; exact e2⟩
          · have hm := List.mem_of_getElem? hy
            obtain ⟨c, hc⟩ := hfrc _ hm
            obtain ⟨u, e1, e2⟩ := told m y c hy hc
            exact ⟨c, u, clo_has hfr1 (hfr y hm) hc, e1, e2⟩
        have tab : TabD (addS (toldG X.env.cells fr us') S2) P0 (qual ++ ".<locals>." ++ name) := by
          obtain ⟨ps', z1, z2, z3⟩ := tD
          refine ⟨ps', by rw [keepS _ (by rw [z1]; exact fun z => by cases z)]; exact z1, z2, fun q cv hcv => ?_⟩
          obtain ⟨c, e1, e2⟩ := z3 q cv hcv
          exact ⟨c, e1, by rw [keepS _ (by rw [e2]; exact fun z => by cases z)]; exact e2⟩
        have un : Un (frs outer) [] H H3 s.heap s5.heap := by
          have z := J2.base
          rw [eH0.1, eH0.2.1, eH0.2.2.1, show X.fs = frs outer from by rw [← eH0.2.2.2]] at z
          exact z
        have hok : HOk P w H3 s5.heap := by
          have z := J2.hok
          rw [ePr.1, ePr.2] at z
          exact z
        refine ⟨u, rfl, .ref f', addH (toldG X.env.cells fr us') H3, by rw [J2.os, eH0.2.1], J2.bare, un_add un hg0 (fun b u e => (gf b u e).2.2), hok_add hok hg0 (fun b u e => (gf b u e).2.1), rv, kq _ _ _ F1 _ AA (.ref f') ?_⟩
        refine kk f' _ _ ⟨_, _, rfl⟩ clo tab fun b e1 e2 => ?_
        have z := same b e1 e2
        rw [keepS b (by rw [z]; exact e1)]
        exact z
      show wpAny (model X.prog X.w) X.A (execs (st2 :: [.Return (some (.Name name p)) pos]) X.env) _ _ _
      rw [hst]
      refine wpAny_execs_cons (PySem.W.nestDef_K hd0 hk0 (ha _) ?_)
      rw [hqn]
      refine nd_make I1 TB' hcode hP1 tT (fun pos cv hc => ?_) hfr0 (fun f' c' s3 hc nf I2 => ?_) (fun f' c' more s3 tr mo nc nf hne I2 => ?_)
      · obtain ⟨c, e1, e2⟩ := tC pos cv hc
        exact ⟨c, e1, by rw [eqn]; exact raw_at R1.r0 e2⟩
      · rw [eqn] at I2
        obtain ⟨c, e1, e2⟩ := tC _ _ hc
        cases e1
        have A2 := R1.r0.newS (o := FnO f' (NF.of st2 name (qual ++ ".<locals>." ++ name) (cloFrom X.env.cells (C8.fnScope st2).names []) c')) (i := .raw _) nf rfl
        have ne : ∀ b, S1 b ≠ none → b ≠ f' := fun b hb z => R1.r0.onS hb (by rw [z]; exact nf)
        exact fin f' c' _ _ s3 I2 A2 nf updS_same (by rw [updS_ne (ne c' (by rw [e2]; exact fun z => by cases z))]; exact e2) ⟨tps, by rw [updS_ne (ne P0 (by rw [tS]; exact fun z => by cases z))]; exact tS, tT, fun q cv hq => by
          obtain ⟨c, e1, e2⟩ := tC q cv hq
          exact ⟨c, e1, by rw [updS_ne (ne c (by rw [e2]; exact fun z => by cases z))]; exact e2⟩⟩ fun b hb _ => updS_ne (ne b hb)
      · rw [eqn] at I2
        have B1 := R1.r0.chgS (o := .tbl (tps ++ more)) (i := .raw (.tbl (tps ++ more))) tS rfl
        have nc1 : upd H1 P0 (.tbl (tps ++ more)) c' = none := by rw [upd_ne (ne_of_none hP1 nc).symm]; exact nc
        have B2 := B1.r0.newS (o := CodeO c' (qual ++ ".<locals>." ++ name)) (i := .raw _) nc1 rfl
        have nf1 : upd (upd H1 P0 (.tbl (tps ++ more))) c' (CodeO c' (qual ++ ".<locals>." ++ name)) f' = none := by rw [upd_ne hne, upd_ne (ne_of_none hP1 nf).symm]; exact nf
        have B3 := B2.r0.newS (o := FnO f' (NF.of st2 name (qual ++ ".<locals>." ++ name) (cloFrom X.env.cells (C8.fnScope st2).names []) c')) (i := .raw _) nf1 rfl
        have ne : ∀ b, S1 b ≠ none → b ≠ f' ∧ b ≠ c' := fun b hb => ⟨fun z => R1.r0.onS hb (by rw [z]; exact nf), fun z => R1.r0.onS hb (by rw [z]; exact nc)⟩
        have nP := ne P0 (by rw [tS]; exact fun z => by cases z)
        have cC : updS (updS (updS S1 P0 (.raw (.tbl (tps ++ more)))) c' (.raw (CodeO c' (qual ++ ".<locals>." ++ name)))) f' (.raw (FnO f' (NF.of st2 name (qual ++ ".<locals>." ++ name) (cloFrom X.env.cells (C8.fnScope st2).names []) c'))) c' = some (.raw (CodeO c' (qual ++ ".<locals>." ++ name))) := by rw [updS_ne (Ne.symm hne), updS_same]
        exact fin f' c' _ _ s3 I2 (B1.trans (B2.trans B3)) nf updS_same cC ⟨tps ++ more, by rw [updS_ne nP.1, updS_ne nP.2, updS_same], tr, fun q cv hq => by
          rcases mo q cv hq with z | z
          · obtain ⟨c, e1, e2⟩ := tC q cv z
            have nn := ne c (by rw [e2]; exact fun z => by cases z)
            by_cases hcp : c = P0
            · subst hcp; rw [tS] at e2; exact absurd (Option.some.inj e2) (fun z => codeO_ne tps (IO.raw.inj z).symm)
            · exact ⟨c, e1, by rw [updS_ne nn.1, updS_ne nn.2, updS_ne hcp]; exact e2⟩
          · exact ⟨c', z, cC⟩⟩ fun b hb hbp => by
            have nn := ne b hb
            rw [updS_ne nn.1, updS_ne nn.2, updS_ne hbp]
  subst eX
  refine wpAny_mono goal (fun fl s' hs => ?_) fun e s' hs => hs
  obtain ⟨u, rfl, q⟩ := hs
  exact q
end DL

set_option Elab.async false
set_option linter.all false
set_option autoImplicit false
set_option maxRecDepth 100000
set_option maxHeartbeats 2000000
/-! DL10: targets with a star, dicts made and asked, a module's dict, texts joined. -/
namespace DL
open PySem PySem.Spec L2

/-! ### a, .., *rest = a tuple -/
section
open PyProof.Rows PySem.W
variable {prog : Program} {w : World} {A : Around} {E : Value → Shared → Prop} {s : Shared}
theorem star_items {l : Addr} {items : Array Value} {i : Nat} {Q : List Value → Shared → Prop} (hl : IsTup s.heap l items) (hh : A.handled = none) (hi : i ≤ items.size) (hz : items.size ≤ sizeLine)
    (h : ∀ (h₂ : Heap) (tk : Nat), (∀ b o, s.heap.get? b = some o → h₂.get? b = some o) → Q (items.toList.take i ++ [.ref h₂.objs.size]) { s with heap := h₂.push { cls := .type "list", data := .seq (items.toList.drop i).toArray }, toks := tk }) :
    wpAny (model prog w) A (unpackItems (.ref l) (i + 1) (some i)) Q E s := by
  have hlt : l ≠ s.heap.objs.size := by obtain ⟨o, ho, _⟩ := hl; exact Nat.ne_of_lt (Heap.lt_size ho)
  unfold unpackItems
  refine wpAny_bind ?_
  unfold notIterableAtAll
  refine wpAny_bind (wpAny_specialOf hl.typeIs slot_tuple_iter.lookup ?_)
  refine wpAny_pure ?_
  simp only [Bool.false_eq_true, if_false]
  refine wpAny_bind (wpAny_holding (iter_tuple hl ?_))
  refine wpAny_bind (wpAny_holding (draw_tuple hlt i 0 _ _ ⟨_, Heap.get?_push_size _ rfl, rfl, rfl⟩ (hl.push _) (by omega) fun h₁ hit₁ hs₁ => ?_))
  have hl₁ : IsTup h₁ l items := (hl.push _).extBut hs₁.extBut hlt
  rw [Nat.zero_add] at hit₁
  have hit₁' := hit₁
  obtain ⟨oi, hoi, _⟩ := hit₁'
  have hl₁' := hl₁
  obtain ⟨ol, hol, _⟩ := hl₁'
  rw [List.drop_zero]
  have hfl : (items.toList.take i).length = i := by rw [List.length_take, Array.length_toList]; omega
  rw [if_neg (show ¬ ((items.toList.take i).length < i) by rw [hfl]; omega)]
  refine wpAny_bind (wpAny_holding (kun_collect (s := { s with heap := h₁ }) (T := "tuple_iterator") (.inr (.inr (.inr rfl))) (Walks.tuple (A := A.in1) hh s.heap.objs.size l hlt items) (fun j u st => st.1.typeIs) (k := i) hi ⟨hit₁, hl₁⟩ (Heap.lt_size hoi) (Heap.lt_size hol) (fun h₂ tk hk => ?_) hz))
  have e1 : i + 1 - 1 - i = 0 := by omega
  have e2 : (items.toList.drop i).length - 0 = (items.toList.drop i).length := by omega
  show wpAny _ _ (if (items.toList.drop i).length < i + 1 - 1 - i then _ else _) _ _ _
  rw [if_neg (by omega)]
  show wpAny _ _ (newList ((items.toList.drop i).take ((items.toList.drop i).length - (i + 1 - 1 - i))) >>= fun d => pure (items.toList.take i ++ [d] ++ (items.toList.drop i).drop ((items.toList.drop i).length - (i + 1 - 1 - i)))) _ _ _
  rw [e1, e2, List.take_length, List.drop_length]
  have kp : ∀ b o, s.heap.get? b = some o → h₂.get? b = some o := fun b o e => hk b o (Nat.ne_of_lt (Heap.lt_size e)) (hs₁.extBut b o (Nat.ne_of_lt (Heap.lt_size e)) (Heap.get?_push_of_some _ e))
  have hs : ((items.toList.drop i).toArray).size ≤ sizeLine := by rw [List.size_toArray, List.length_drop, Array.length_toList]; omega
  refine wpAny_bind ?_
  unfold newList
  refine wpAny_newObj_type ?_ (show _ ≤ sizeLine from hs)
  refine wpAny_pure ?_
  rw [List.append_nil]
  exact h h₂ tk kp
end
section
variable {X : Cx} {W : WX} {e : Expr} {te : DE} {pos : Pos}
/-- the last of the targets, with a star -/
theorem dgs_star {p : Pos} {e : Expr} {T : Tg} (h : DG X e T) (hs : (assignEach [.Starred e p] X.env).map (·.2) = [assign e X.env] := by rfl) (hs0 : (assignEach [e] X.env).map (·.2) = [assign e X.env] := by rfl) : DGs X [.Starred e p] [T] := by
  refine ⟨fun pins s σ H vs us Q I r q => ?_⟩
  obtain ⟨ρ, S, F, ds, ρ', R, dn, e1, k⟩ := q
  have h1 := (dgs_cons (es := []) h dgs_nil hs0).run pins s σ H vs us Q I r ⟨ρ, S, F, ds, ρ', R, dn, e1, k⟩
  rw [hs0] at h1
  rw [hs]
  exact h1
def dStar (n : Nat) (Ts : List Tg) (te : DE) : DSt := fun E ρ S => te ρ S (fun d S1 => ∃ ds, d = .tup ds ∧ n ≤ ds.length ∧ ∃ ρ', asgs Ts (ds.take n ++ [.lst (ds.drop n)]) ρ = some ρ' ∧ E.nx ρ' S1) (exOf E ρ)
theorem ds_star {es : List Expr} {kk n : Nat} {Ts : List Tg} {tpos : Pos} (hc : X.calm = true) (he : DX X W e te) (hg : DGs X es Ts) (hn : (assignEach es X.env).length = n + 1 := by rfl) (hst : (assignEach es X.env).findIdx? (·.1) = some n := by rfl)
    (hs : swapsWithSole [.Tuple es kk tpos] e pos.line X.env = pure false := by rfl) (hw : swappedStores [.Tuple es kk tpos] e X.env = pure none := by rfl)
    (h1 : (assignEach [.Tuple es kk tpos] X.env).map (·.2) = [assign (.Tuple es kk tpos) X.env] := by rfl) : DS X W (.Assign [.Tuple es kk tpos] e pos) (dStar n Ts te) := by
  refine ⟨fun pins s σ H D I h => ?_⟩
  obtain ⟨ρ, S, F, E, R, q1, k⟩ := h
  refine wpAny_Assign_stores (thn (he.run pins s σ H (fun v H1 => ∃ S1 F1 ds, After X.K H S F H1 S1 F1 ∧ Den X.K F1 v (.tup ds) ∧ n ≤ ds.length ∧ ∃ ρ', asgs Ts (ds.take n ++ [.lst (ds.drop n)]) ρ = some ρ' ∧ E.nx ρ' S1) I
    ⟨ρ, S, F, _, _, R, q1, fun v H1 S1 F1 d A1 dn q2 => by
      obtain ⟨ds, rfl, q3⟩ := q2
      exact ⟨S1, F1, ds, A1, dn, q3⟩, k.wok R⟩) fun u s1 ⟨v, H1, I1, rv, S1, F1, ds, A1, dn, hl, ρ', ea, q⟩ => ?_) hs hw
  rw [h1]
  show wpAny _ _ (assign (.Tuple es kk tpos) X.env u) _ _ _
  cases dn with
  | @tup a vs _ hq dd hz =>
    obtain rfl : u = Value.ref a := rv
    obtain ⟨its, rv', ht, hz'⟩ := I1.tuple (hq.sq A1.r0.same)
    rw [PyProof.Rows.assign_Tuple]
    refine wpAny_bind (wpAny_standAt ?_)
    unfold unpack
    rw [hn, hst]
    have ln : n ≤ its.toArray.size := by rw [List.size_toArray, ← rv'.length, dd.length]; exact hl
    refine wpAny_bind (wpAny_holding (star_items ht (I1.ok.hd hc) ln (by rw [List.size_toArray, ← rv'.length]; exact hz') fun h₂ tk kp => ?_))
    have I2 : Inv X pins σ H1 { s1 with heap := h₂, toks := tk } := I1.kept kp
    have nD : H1 h₂.objs.size = none := I2.hok.fresh (Nat.le_refl _)
    have vd : Vals (vs.drop n) (its.drop n) := rv'.drop n
    have I3 : Inv X pins σ (upd H1 h₂.objs.size (.lst (vs.drop n))) { s1 with heap := h₂.push { cls := .type "list", data := .seq (its.drop n).toArray }, toks := tk } := by
      refine I2.laid (t' := tk) (fun b o q => Heap.get?_push_of_some _ q) (Nat.le_refl _) ⟨?_, its.drop n, 0, vd, Heap.get?_push_size _ rfl⟩
      rw [List.length_drop, dd.length]
      omega
    have A2 := A1.r0.newF (o := .lst (vs.drop n)) nD
    have dn2 : Dens X.K (upd F1 h₂.objs.size (.lst (vs.drop n))) (vs.take n ++ [.ref h₂.objs.size]) (ds.take n ++ [.lst (ds.drop n)]) :=
      ((dd.take n).mono A2.same).append (.one (.lst upd_same ((dd.drop n).mono A2.same) (by rw [List.length_drop]; omega)))
    refine hg.run pins _ σ _ (vs.take n ++ [.ref h₂.objs.size]) _ D.nx I3 ?_ ⟨ρ, S1, _, _, ρ', (R.after A1).after A2, dn2, ea, fun σ' l s R' => k.nx σ' _ ρ' S1 _ (A1.trans A2) R' q⟩
    exact (rv'.take n).append (.cons rfl .nil)

/-! ### dicts -/
/-- {}, with identity -/
def dDct0 : DE := fun _ S Q _ => ∀ a, S a = none → Q (.ref a) (updS S a (.dct []))
theorem dx_dct0 : DX X W (.Dict [] [] pos) dDct0 := pe_dnewK.weaken fun σ H Q q => by
  obtain ⟨ρ, S, F, Qd, Ex, R, q1, kq, kw⟩ := q
  intro p hp
  have A := R.r0.newS (o := .dK []) (i := .dct []) hp ⟨.nil, List.nodup_nil, Nat.zero_le _⟩
  exact kq _ _ _ _ _ A (.ref p) (q1 p (R.r0.noS hp))
variable {o f : Expr} {to tf : DE} {apos cpos : Pos}
def dSetd (td tk tx : DE) : DE := fun ρ S Q E => td ρ S (fun d S1 => ∃ a kds0, d = .ref a ∧ S1 a = some (.dct kds0) ∧ tk ρ S1 (fun y S2 => tx ρ S2 (fun z S3 => ∃ kds k, S3 a = some (.dct kds) ∧ keyD y = some k ∧ kds.length < 1000000 ∧
  (∀ v, kget kds k = some v → Q v S3) ∧ (kget kds k = none → Q z (updS S3 a (.dct (kput kds k z))))) E) E) E
theorem x_setd (ho : DX X W o to) (he : DX X W e te) (hf : DX X W f tf) (hbase : attributeBase o "setdefault" X.env (eval o X.env) = eval o X.env := by rfl)
    (hfew : ((backTo cpos (starEach [e, f] X.env)).all (fun x => !x.1) && (backToKw cpos (keywordEach [] X.env)).all (fun x => x.1.isSome)
      && decide (([e, f] : List Expr).length + ([] : List Keyword).length + (if ([] : List Keyword).isEmpty then 0 else 1) < 30)) = true := by rfl)
    (hline : (apos.endLine == cpos.line) = true := by rfl) (htr : backTo cpos (starEach [e, f] X.env) = [(false, eval e X.env), (false, eval f X.env)] := by rfl) : DX X W (.Call (.Attribute o "setdefault" apos) [e, f] [] cpos) (dSetd to te tf) :=
  (pe_dsetd ho he hf ⟨hbase, hfew, hline, htr⟩).weaken fun σ H Q q => by
    obtain ⟨ρ, S, F, Qd, Ex, R, q1, kq, kw⟩ := q
    refine ⟨ρ, S, F, _, Ex, R, q1, fun v H1 S1 F1 d A1 dn q2 => ?_, kw⟩
    obtain ⟨a, kds0, rfl, e1, q2⟩ := q2
    cases den_ref dn
    obtain ⟨kvs0, g1, _⟩ := io_dct A1.r0 e1
    refine ⟨a, rfl, .inl ⟨kvs0, .inl g1⟩, ρ, S1, F1, _, Ex, R.after A1, q2, fun u H2 S2 F2 d2 A2 dn2 q3 => ?_, kw.after A1⟩
    have A12 := A1.trans A2
    refine ⟨ρ, S2, F2, _, Ex, R.after A12, q3, fun w H3 S3 F3 d3 A3 dn3 q4 => ?_, kw.after A12⟩
    obtain ⟨kds, k, e3, e4, hl, q5, q6⟩ := q4
    obtain ⟨kvs, g3, d3', n3, l3⟩ := io_dct A3.r0 e3
    have AA := A12.trans A3
    refine ⟨kvs, k, g3, keyD_v (dn2.mono A3.same) e4, ?_, fun v hv => ?_, fun hv => ?_⟩
    · rw [d3'.length]
      exact Nat.lt_of_lt_of_le hl (le_line (Nat.le_refl _))
    · have dg := d3'.get (k := k)
      rw [hv] at dg
      cases z2 : kget kds k with
      | none => rw [z2] at dg; exact dg.elim
      | some d' =>
        rw [z2] at dg
        exact kq _ H3 S3 F3 _ AA dg (q5 d' z2)
    · have dg := d3'.get (k := k)
      rw [hv] at dg
      cases z2 : kget kds k with
      | some _ => rw [z2] at dg; exact dg.elim
      | none =>
        have A4 := A3.r0.chgS (o := .dK (putK kvs k w)) (i := .dct (kput kds k d3)) e3 ⟨d3'.put dn3, kput_nodup n3, Nat.le_trans kput_length (le_line hl)⟩
        exact kq _ _ _ _ _ (AA.trans A4) dn3 (q6 z2)
theorem x_get2 (hu : X.A.units + 1 < cLine) (ho : DX X W o to) (he : DX X W e te) (hf : DX X W f tf) (hbase : attributeBase o "get" X.env (eval o X.env) = eval o X.env := by rfl)
    (hfew : ((backTo cpos (starEach [e, f] X.env)).all (fun x => !x.1) && (backToKw cpos (keywordEach [] X.env)).all (fun x => x.1.isSome)
      && decide (([e, f] : List Expr).length + ([] : List Keyword).length + (if ([] : List Keyword).isEmpty then 0 else 1) < 30)) = true := by rfl)
    (hline : (apos.endLine == cpos.line) = true := by rfl) (htr : backTo cpos (starEach [e, f] X.env) = [(false, eval e X.env), (false, eval f X.env)] := by rfl) : DX X W (.Call (.Attribute o "get" apos) [e, f] [] cpos) (dGet2 to te tf) :=
  dx_get2 (pe_dget2 hu ho he hf ⟨hbase, hfew, hline, htr⟩)

/-! ### a dict of the module: texts to whole numbers -/
def EntIs (en : DictEntry) (q : Str × Int) : Prop := (∃ t, en.key = .str q.1 t) ∧ ∃ t, en.val = .int q.2 t
def KInt (K : PySem.W.Frag) (w : World) (p : Addr) (tb : List (Str × Int)) : Prop := ∃ es n, K.lookup p = some ⟨.type "dict", none, .dict es n, #[]⟩ ∧ PySem.W.KeysLit w.params es.toList ∧ (p == sysModules) = false ∧ Paired EntIs es.toList tb
theorem ent_find {z : Str} : ∀ {es : List DictEntry} {tb : List (Str × Int)}, Paired EntIs es tb → match tb.lookup z, (es.find? fun d => Value.isStrOf z d.key).map (·.val) with
    | some i, some v => ∃ t, v = .int i t
    | none, none => True
    | _, _ => False
  | _, _, .nil => True.intro
  | en :: es, (y, i) :: tb, .cons ⟨⟨t, h1⟩, h2⟩ r => by
    have ih := ent_find (z := z) r
    rw [List.find?_cons, List.lookup_cons, h1]
    by_cases e : z = y
    · subst e
      have e1 : Value.isStrOf z (.str z t) = true := by simp [Value.isStrOf]
      rw [show (z == z) = true by simp]
      simp only [e1]
      exact h2
    · have e1 : Value.isStrOf z (.str y t) = false := by
        simp [Value.isStrOf]
        exact fun q => e q.symm
      rw [show (z == y) = false by simpa using e]
      simp only [e1]
      exact ih
def dKGet (tb : List (Str × Int)) (tk tx : DE) : DE := fun ρ S Q E => tk ρ S (fun y S1 => tx ρ S1 (fun z S2 => ∃ x, y = .str x ∧ Q (match tb.lookup x with | some i => .int i | none => z) S2) E) E
theorem x_kget {p : Addr} {tb : List (Str × Int)} (kt : KInt X.K X.w p tb) (ho : PE X o (tC (.ref p))) (he : DX X W e te) (hf : DX X W f tf) (hbase : attributeBase o "get" X.env (eval o X.env) = eval o X.env := by rfl)
    (hfew : ((backTo cpos (starEach [e, f] X.env)).all (fun x => !x.1) && (backToKw cpos (keywordEach [] X.env)).all (fun x => x.1.isSome)
      && decide (([e, f] : List Expr).length + ([] : List Keyword).length + (if ([] : List Keyword).isEmpty then 0 else 1) < 30)) = true := by rfl)
    (hline : (apos.endLine == cpos.line) = true := by rfl) (htr : backTo cpos (starEach [e, f] X.env) = [(false, eval e X.env), (false, eval f X.env)] := by rfl) : DX X W (.Call (.Attribute o "get" apos) [e, f] [] cpos) (dKGet tb te tf) := by
  refine ⟨fun pins s σ H Q I h => ?_⟩
  obtain ⟨ρ, S, F, Qd, Ex, R, q1, kq, kw⟩ := h
  obtain ⟨es, n, hl, hk, hsm, pe⟩ := kt
  refine wpAny_Call_method hbase hfew hline PySem.F.plainAttrs_dict PySem.F.slot_dict_get PySem.F.type_dict_get (thn (ho.run pins s σ H (fun v H1 => v = .ref p ∧ H1 = H) I ⟨rfl, rfl⟩) fun u s1 ⟨x, H1, I1, rx, ex, eH⟩ => ?_)
  subst ex
  subst eH
  obtain rfl : u = Value.ref p := rx
  have hm := PySem.W.mapOf_K (prog := X.prog) (w := X.w) I1.kIn hl hk
  refine ⟨hm.typeIs, fun b q => ?_, ?_⟩
  · cases q
    exact ⟨_, I1.kIn _ _ hl, rfl⟩
  rw [htr]
  refine Calls.callWith_builtin rfl (Calls.evalArgs_plain (Calls.spliced_cons (thn (he.run pins s1 σ H1 (fun y H2 => ∃ S2 F2 d, After X.K H1 S F H2 S2 F2 ∧ Den X.K F2 y d ∧ tf ρ S2 (fun z S3 => ∃ x, d = .str x ∧ Qd (match tb.lookup x with | some i => .int i | none => z) S3) Ex) I1
    ⟨ρ, S, F, _, Ex, R, q1, fun v H' S' F' d A dn q => ⟨S', F', d, A, dn, q⟩, kw⟩) fun iv s2 ⟨y, H2, I2, ry, S2, F2, d2, A2, dn2, q2⟩ =>
    Calls.spliced_cons (thn (hf.run pins s2 σ H2 (fun z H3 => ∃ S3 F3 d3, After X.K H2 S2 F2 H3 S3 F3 ∧ Den X.K F3 z d3 ∧ ∃ x, d2 = .str x ∧ Qd (match tb.lookup x with | some i => .int i | none => d3) S3) I2
      ⟨ρ, S2, F2, _, Ex, R.after A2, q2, fun v H' S' F' d A dn q => ⟨S', F', d, A, dn, q⟩, kw.after A2⟩) fun fv s3 ⟨z, H3, I3, rz, S3, F3, d3, A3, dn3, x, ex, q3⟩ => Calls.spliced_nil ?_))))
  subst ex
  cases den_str dn2
  obtain ⟨t, rfl⟩ := ry
  have hm3 := PySem.W.mapOf_K (prog := X.prog) (w := X.w) I3.kIn hl hk
  refine call_meetsIn PySem.F.slot_dict_get hm3.typeIs PySem.F.entry_dict_get (PySem.F.args_dict_get_3 _ _ _) (meets_dict_get_default (strKind X.prog X.w) p (strKind_is X.prog X.w x t) hsm fv) ⟨_, hm3, ?_⟩
  have hfnd := ent_find (z := x) pe
  have AA := A2.trans A3
  show EP X pins σ Q ((findBy Value.isStrOf es x).getD fv) _
  have ef : findBy Value.isStrOf es x = (es.toList.find? fun d => Value.isStrOf x d.key).map (·.val) := by
    obtain ⟨l⟩ := es
    unfold findBy
    rw [List.find?_toArray]
  rw [ef]
  cases h1 : tb.lookup x with
  | none =>
    rw [h1] at hfnd q3
    cases h2 : (es.toList.find? fun d => Value.isStrOf x d.key).map (·.val) with
    | some _ => rw [h2] at hfnd; exact hfnd.elim
    | none => exact ⟨z, H3, I3.tok _, rz, kq _ _ _ _ _ AA dn3 q3⟩
  | some i =>
    rw [h1] at hfnd q3
    cases h2 : (es.toList.find? fun d => Value.isStrOf x d.key).map (·.val) with
    | none => rw [h2] at hfnd; exact hfnd.elim
    | some v =>
      rw [h2] at hfnd
      obtain ⟨t', rfl⟩ := hfnd
      exact ⟨.int i, H3, I3.tok _, ⟨t', rfl⟩, kq _ _ _ _ _ AA (.int i) q3⟩

/-! ### texts joined, items taken out -/
theorem x_join (ho : DX X W o to) (he : DX X W e te) (hs : starEach [e] X.env = (false, eval e X.env) :: starEach [] X.env := by rfl) (hbase : attributeBase o "join" X.env (eval o X.env) = eval o X.env := by rfl)
    (hfew : ((backTo cpos (starEach [e] X.env)).all (fun x => !x.1) && (backToKw cpos (keywordEach [] X.env)).all (fun x => x.1.isSome)
      && decide (([e] : List Expr).length + ([] : List Keyword).length + (if ([] : List Keyword).isEmpty then 0 else 1) < 30)) = true := by rfl)
    (hline : (apos.endLine == cpos.line) = true := by rfl) : DX X W (.Call (.Attribute o "join" apos) [e] [] cpos) (dBM "str" rdJoin to (dCons te dNil)) :=
  x_bm PySem.F.plainAttrs_str PySem.F.slot_str_join PySem.F.type_str_join m_join ho (da_cons he da_nil hs) hbase hfew hline hs rfl
theorem x_popAt (ho : DX X W o to) (he : DX X W e te) (hs : starEach [e] X.env = (false, eval e X.env) :: starEach [] X.env := by rfl) (hbase : attributeBase o "pop" X.env (eval o X.env) = eval o X.env := by rfl)
    (hfew : ((backTo cpos (starEach [e] X.env)).all (fun x => !x.1) && (backToKw cpos (keywordEach [] X.env)).all (fun x => x.1.isSome)
      && decide (([e] : List Expr).length + ([] : List Keyword).length + (if ([] : List Keyword).isEmpty then 0 else 1) < 30)) = true := by rfl)
    (hline : (apos.endLine == cpos.line) = true := by rfl) : DX X W (.Call (.Attribute o "pop" apos) [e] [] cpos) (dBM "list" rdPopAt to (dCons te dNil)) :=
  x_bm PySem.F.plainAttrs_list PySem.F.slot_list_pop PySem.F.type_list_pop m_popAt ho (da_cons he da_nil hs) hbase hfew hline hs rfl
end
/-! ### built-ins' names, room -/
theorem bt_isinstance : bootBuiltins "isinstance" = some (.builtin "isinstance") := by first | rfl | decide +kernel | kernel_rfl
theorem bt_len : bootBuiltins "len" = some (.builtin "len") := by first | rfl | decide +kernel | kernel_rfl
theorem bt_all : bootBuiltins "all" = some (.builtin "all") := by first | rfl | decide +kernel | kernel_rfl
theorem bt_any : bootBuiltins "any" = some (.builtin "any") := by first | rfl | decide +kernel | kernel_rfl
theorem bt_sum : bootBuiltins "sum" = some (.builtin "sum") := by first | rfl | decide +kernel | kernel_rfl
theorem bt_max : bootBuiltins "max" = some (.builtin "max") := by first | rfl | decide +kernel | kernel_rfl
theorem bt_min : bootBuiltins "min" = some (.builtin "min") := by first | rfl | decide +kernel | kernel_rfl
theorem bt_abs : bootBuiltins "abs" = some (.builtin "abs") := by first | rfl | decide +kernel | kernel_rfl
theorem bt_int : bootBuiltins "int" = some (.type "int") := by first | rfl | decide +kernel | kernel_rfl
theorem bt_bool : bootBuiltins "bool" = some (.type "bool") := by first | rfl | decide +kernel | kernel_rfl
theorem bt_str : bootBuiltins "str" = some (.type "str") := by first | rfl | decide +kernel | kernel_rfl
theorem bt_tuple : bootBuiltins "tuple" = some (.type "tuple") := by first | rfl | decide +kernel | kernel_rfl
theorem bt_list : bootBuiltins "list" = some (.type "list") := by first | rfl | decide +kernel | kernel_rfl
theorem bt_dict : bootBuiltins "dict" = some (.type "dict") := by first | rfl | decide +kernel | kernel_rfl
theorem room1 {k : Nat} {A : Around} (hr : Room k A) : A.units + 1 < cLine := by have := hr.un; omega
theorem room65 {k : Nat} {A : Around} (hr : Room k A) : A.units + 65 < cLine := by have := hr.un; omega
end DL

set_option Elab.async false
set_option linter.all false
set_option autoImplicit false
set_option maxRecDepth 100000
set_option maxHeartbeats 2000000
/-! DL11: readings, computed by simp. -/
namespace DL
open PySem PySem.Spec L2

/-- a text that may be compared -/
def okS (x : Str) : Bool := x.cps.all (· < 0x110000)
theorem ifs {p : Prop} [Decidable p] {A B : Prop} (h1 : p → A) (h2 : ¬ p → B) : if p then A else B := by
  by_cases h : p
  · rw [if_pos h]; exact h1 h
  · rw [if_neg h]; exact h2 h
@[simp] theorem atI_nat {α : Type} {xs : List α} {i : Int} (h : 0 ≤ i) : L2.atI xs i = xs[i.toNat]? := by
  unfold L2.atI
  have h' : ¬ i < 0 := by omega
  by_cases hl : i < xs.length
  · simp [L2.ixN, h', h, hl]
  · have : xs.length ≤ i.toNat := by omega
    simp [L2.ixN, h', h, hl, List.getElem?_eq_none this]
/-- a value that is a truth -/
def blK (x : D) (f : Bool → Prop) : Prop := ∃ k, x = .bl k ∧ f k
@[simp] theorem blK_bl {b : Bool} {f : Bool → Prop} : blK (.bl b) f ↔ f b := by
  constructor
  · rintro ⟨k, h, q⟩; cases h; exact q
  · exact fun q => ⟨b, rfl, q⟩
theorem cast_bl {Q : DK} {S : IS} {b c : Bool} (q : Q (.bl c) S) (e : b = c) : Q (.bl b) S := by rw [e]; exact q
section
variable {ρ : Rho} {S : IS} {Q : DK} {E : XKd} {Qb : Bool → IS → Prop} {Ql : List D → IS → Prop} {EE : DEnds} {i j : Nat} {d : D} {ta tb tc td : DE} {tt tu : DTt} {ts tr : DSt} {ua : DAt} {rd rd' : RD} {rs : RDs}
@[simp] theorem s_dVar : dVar i ρ S Q E ↔ ∃ d, ρ[i]? = some (some d) ∧ Q d S := Iff.rfl
@[simp] theorem s_dC : dC d ρ S Q E ↔ Q d S := Iff.rfl
@[simp] theorem s_dOp : dOp rd ta tb ρ S Q E ↔ ta ρ S (fun x S1 => tb ρ S1 (fun y S2 => rd x y S2 Q) E) E := Iff.rfl
@[simp] theorem s_dTst : dTst ta ρ S Qb E ↔ ta ρ S (fun x S1 => blK x fun k => Qb k S1) E := Iff.rfl
@[simp] theorem s_dChain : dChain rd rd' ta tb tc ρ S Q E ↔ ta ρ S (fun x S1 => tb ρ S1 (fun y S2 => rd x y S2 fun z S3 => blK z fun k => if k = true then tc ρ S3 (fun w S4 => rd' y w S4 Q) E else Q (.bl false) S3) E) E := Iff.rfl
@[simp] theorem s_dAnd : dAnd tt tu ρ S Qb E ↔ tt ρ S (fun k S1 => if k = true then tu ρ S1 Qb E else Qb false S1) E := Iff.rfl
@[simp] theorem s_dOr : dOr tt tu ρ S Qb E ↔ tt ρ S (fun k S1 => if k = true then Qb true S1 else tu ρ S1 Qb E) E := Iff.rfl
@[simp] theorem s_dNot : dNot tt ρ S Qb E ↔ tt ρ S (fun k S1 => Qb (!k) S1) E := Iff.rfl
@[simp] theorem s_dAndV : dAndV ta tb ρ S Q E ↔ ta ρ S (fun x S1 => blK x fun k => if k = true then tb ρ S1 Q E else Q (.bl false) S1) E := Iff.rfl
@[simp] theorem s_dOrV : dOrV ta tb ρ S Q E ↔ ta ρ S (fun x S1 => blK x fun k => if k = true then Q (.bl true) S1 else tb ρ S1 Q E) E := Iff.rfl
@[simp] theorem s_dNotV : dNotV ta ρ S Q E ↔ ta ρ S (fun x S1 => blK x fun k => Q (.bl (!k)) S1) E := Iff.rfl
@[simp] theorem s_dIf : dIf tt ta tb ρ S Q E ↔ tt ρ S (fun k S1 => if k = true then ta ρ S1 Q E else tb ρ S1 Q E) E := Iff.rfl
@[simp] theorem s_dNil : dNil ρ S Ql E ↔ Ql [] S := Iff.rfl
@[simp] theorem s_dCons : dCons ta ua ρ S Ql E ↔ ta ρ S (fun x S1 => ua ρ S1 (fun xs S2 => Ql (x :: xs) S2) E) E := Iff.rfl
@[simp] theorem s_dTup : dTup ua ρ S Q E ↔ ua ρ S (fun xs S1 => xs.length ≤ 1000000 ∧ Q (.tup xs) S1) E := Iff.rfl
@[simp] theorem s_dLst : dLst ua ρ S Q E ↔ ua ρ S (fun xs S1 => xs.length ≤ 1000000 ∧ Q (.lst xs) S1) E := Iff.rfl
@[simp] theorem s_dLstI : dLstI ua ρ S Q E ↔ ua ρ S (fun xs S1 => xs.length ≤ 1000000 ∧ ∀ a, S1 a = none → Q (.ref a) (updS S1 a (.lst xs))) E := Iff.rfl
@[simp] theorem s_dCB : dCB rs ua ρ S Q E ↔ ua ρ S (fun ds S1 => rs ds S1 Q) E := Iff.rfl
@[simp] theorem s_dNext : dNext EE ρ S ↔ EE.nx ρ S := Iff.rfl
@[simp] theorem s_dSeq : dSeq ts tr EE ρ S ↔ ts { EE with nx := tr EE } ρ S := Iff.rfl
@[simp] theorem s_dBreak : dBreak EE ρ S ↔ EE.bk ρ S := Iff.rfl
@[simp] theorem s_dCont : dCont EE ρ S ↔ EE.ct ρ S := Iff.rfl
@[simp] theorem s_dDrop : dDrop ta EE ρ S ↔ ta ρ S (fun _ S1 => EE.nx ρ S1) (exOf EE ρ) := Iff.rfl
@[simp] theorem s_dRet : dRet ta EE ρ S ↔ ta ρ S EE.rt (exOf EE ρ) := Iff.rfl
@[simp] theorem s_dRetN : dRetN EE ρ S ↔ EE.rt .non S := Iff.rfl
@[simp] theorem s_dIfS : dIfS tt ts tr EE ρ S ↔ tt ρ S (fun b S1 => if b = true then ts EE ρ S1 else tr EE ρ S1) (exOf EE ρ) := Iff.rfl
@[simp] theorem s_dSet : dSet i ta EE ρ S ↔ ta ρ S (fun d S1 => EE.nx (ρ.set i (some d)) S1) (exOf EE ρ) := Iff.rfl
@[simp] theorem s_dAug : dAug i rd ta EE ρ S ↔ ∃ x, ρ[i]? = some (some x) ∧ ta ρ S (fun y S1 => rd x y S1 fun z S2 => EE.nx (ρ.set i (some z)) S2) (exOf EE ρ) := Iff.rfl
@[simp] theorem s_dAsg {T : Tg} : dAsg T ta EE ρ S ↔ ta ρ S (fun d S1 => ∃ ρ', asg T d ρ = some ρ' ∧ EE.nx ρ' S1) (exOf EE ρ) := Iff.rfl
@[simp] theorem s_dStar {n : Nat} {Ts : List Tg} : dStar n Ts ta EE ρ S ↔ ta ρ S (fun d S1 => ∃ ds, d = .tup ds ∧ n ≤ ds.length ∧ ∃ ρ', asgs Ts (ds.take n ++ [.lst (ds.drop n)]) ρ = some ρ' ∧ EE.nx ρ' S1) (exOf EE ρ) := Iff.rfl
@[simp] theorem s_dPar : dPar i j ua EE ρ S ↔ ua ρ S (fun ds S1 => ∃ d1 d2, ds = [d1, d2] ∧ EE.nx ((ρ.set i (some d1)).set j (some d2)) S1) (exOf EE ρ) := Iff.rfl
@[simp] theorem s_dCall {sp : SpD} : dCall sp ua ρ S Q E ↔ ua ρ S (fun ds S1 => sp ds S1 Q E) E := Iff.rfl
@[simp] theorem s_dRaise {C : Value} : dRaise C EE ρ S ↔ EE.xc C none ρ S := Iff.rfl
@[simp] theorem s_dTry {m : Value → Option Bool} : dTry m ts tr EE ρ S ↔ ts { EE with xc := fun cls xa ρ' S' => ∃ b, m cls = some b ∧ (b = true → tr { EE with xc := fun _ _ _ _ => False } ρ' S') ∧ (b = false → EE.xc cls xa ρ' S') } ρ S := Iff.rfl
@[simp] theorem s_dBM {T : String} {rd : D → List D → IS → DK → Prop} : dBM T rd ta ua ρ S Q E ↔ ta ρ S (fun x S1 => tyD T S1 x ∧ ua ρ S1 (fun xs S2 => rd x xs S2 Q) E) E := Iff.rfl
@[simp] theorem s_dSl {tl th : DOt} : dSl ta tl th ρ S Q E ↔ ta ρ S (fun x S1 => tl ρ S1 (fun l S2 => th ρ S2 (fun u S3 => rdSl x l u S3 Q) E) E) E := Iff.rfl
@[simp] theorem s_dNoPart {Qo : Option Int → IS → Prop} : dNoPart ρ S Qo E ↔ Qo none S := Iff.rfl
@[simp] theorem s_dPart {Qo : Option Int → IS → Prop} : dPart ta ρ S Qo E ↔ ta ρ S (fun x S1 => ∃ i, x = .int i ∧ Qo (some i) S1) E := Iff.rfl
@[simp] theorem s_dIter : dIter ta ρ S Ql E ↔ ta ρ S (fun d S1 => ∃ ds, itemsOf d = some ds ∧ Ql ds S1) E := Iff.rfl
def zipK (ds : List D) (f : List D → Prop) : Prop := ∃ x y xs ys, ds = [x, y] ∧ zipArgs x y = some (xs, ys) ∧ f (zipD xs ys)
@[simp] theorem zipK_t {xs ys : List D} {f : List D → Prop} : zipK [.tup xs, .tup ys] f ↔ f (zipD xs ys) := by
  constructor
  · rintro ⟨x, y, xs', ys', h, h2, q⟩; cases h; cases h2; exact q
  · exact fun q => ⟨_, _, xs, ys, rfl, rfl, q⟩
@[simp] theorem zipK_l {xs ys : List D} {f : List D → Prop} : zipK [.lst xs, .lst ys] f ↔ f (zipD xs ys) := by
  constructor
  · rintro ⟨x, y, xs', ys', h, h2, q⟩; cases h; cases h2; exact q
  · exact fun q => ⟨_, _, xs, ys, rfl, rfl, q⟩
@[simp] theorem s_dZip : dZip ua ρ S Ql E ↔ ua ρ S (fun ds S1 => zipK ds fun zs => Ql zs S1) E := Iff.rfl
@[simp] theorem s_dRng1 : dRng1 ua ρ S Ql E ↔ ua ρ S (fun ds S1 => ∃ n : Int, ds = [.int n] ∧ -1000000 ≤ n ∧ n ≤ 1000000 ∧ Ql ((List.range n.toNat).map fun i => .int (0 + (i : Nat))) S1) E := Iff.rfl
@[simp] theorem s_dRng2 : dRng2 ua ρ S Ql E ↔ ua ρ S (fun ds S1 => ∃ a b : Int, ds = [.int a, .int b] ∧ -400000 ≤ a ∧ a ≤ 400000 ∧ -400000 ≤ b ∧ b ≤ 400000 ∧ Ql ((List.range (b - a).toNat).map fun i => .int (a + (i : Nat))) S1) E := Iff.rfl
@[simp] theorem s_dFor {ti : DIt} {T : Tg} : dFor ti T ts EE ρ S ↔ ti ρ S (fun items S1 => forW T ts EE items ρ S1) (exOf EE ρ) := Iff.rfl
@[simp] theorem s_dLc {ti : DIt} {T : Tg} {vs : List Nat} : dLc ti T tt ta vs ρ S Q E ↔ ti ρ S (fun items S1 => compW T tt ta (wipeD ρ vs) items [] S1 (fun acc S2 => Q (.lst acc) S2)) E := Iff.rfl
@[simp] theorem s_dLcI {ti : DIt} {T : Tg} {vs : List Nat} : dLcI ti T tt ta vs ρ S Q E ↔ ti ρ S (fun items S1 => compW T tt ta (wipeD ρ vs) items [] S1 (fun acc S2 => ∀ a, S2 a = none → Q (.ref a) (updS S2 a (.lst acc)))) E := Iff.rfl
@[simp] theorem s_dYes : dYes ρ S Qb E ↔ Qb true S := Iff.rfl
@[simp] theorem s_dFrz : dFrz ta ρ S Q E ↔ ta ρ S (fun d S1 => frzQ d S1 Q) E := Iff.rfl
@[simp] theorem s_dSto : dSto ta tb tc EE ρ S ↔ ta ρ S (fun v S1 => tb ρ S1 (fun o S2 => tc ρ S2 (fun i S3 => stIx o i v S3 (fun S4 => EE.nx ρ S4)) (exOf EE ρ)) (exOf EE ρ)) (exOf EE ρ) := Iff.rfl
@[simp] theorem s_dDct0 : dDct0 ρ S Q E ↔ ∀ a, S a = none → Q (.ref a) (updS S a (.dct [])) := Iff.rfl
@[simp] theorem s_dKGet {tbl : List (Str × Int)} : dKGet tbl ta tb ρ S Q E ↔ ta ρ S (fun y S1 => tb ρ S1 (fun z S2 => ∃ x, y = .str x ∧ Q (match tbl.lookup x with | some i => .int i | none => z) S2) E) E := Iff.rfl
@[simp] theorem s_exOf {cls : Value} {xa : XA} : exOf EE ρ cls xa S ↔ EE.xc cls xa ρ S := Iff.rfl
/-! values -/
variable {C : Int → Int → Prop} {g : Int → Int → D} {a b : Int} {x y : Str} {xs ys : List D} {bo bo' : Bool}
@[simp] theorem s_rdI : rdI C g (.int a) (.int b) S Q ↔ C a b ∧ Q (g a b) S := Iff.rfl
@[simp] theorem vw_int' : vw S (.int a) = .int a := rfl
@[simp] theorem vw_bl' : vw S (.bl bo) = .bl bo := rfl
@[simp] theorem vw_str' : vw S (.str x) = .str x := rfl
@[simp] theorem vw_non' : vw S .non = .non := rfl
@[simp] theorem vw_tup' : vw S (.tup xs) = .tup xs := rfl
@[simp] theorem vw_lst0 : vw S (.lst xs) = .lst xs := rfl
@[simp] theorem vw_dct0 {k : List (Key × D)} : vw S (.dct k) = .dct k := rfl
@[simp] theorem vw_scr0 {k : List Int} : vw S (.scr k) = .scr k := rfl
@[simp] theorem s_add_i : rdAdd (.int a) (.int b) S Q ↔ Q (.int (a + b)) S := Iff.rfl
@[simp] theorem s_add_s : rdAdd (.str x) (.str y) S Q ↔ x.length + y.length ≤ 1000000 ∧ Q (.str (x ++ y)) S := Iff.rfl
@[simp] theorem s_add_l : rdAdd (.lst xs) (.lst ys) S Q ↔ xs.length + ys.length ≤ 1000000 ∧ Q (.lst (xs ++ ys)) S := Iff.rfl
@[simp] theorem s_add_t : rdAdd (.tup xs) (.tup ys) S Q ↔ xs.length + ys.length ≤ 1000000 ∧ Q (.tup (xs ++ ys)) S := Iff.rfl
variable {e f : D}
@[simp] theorem s_eq : rdEq e f S Q ↔ okE (vw S e) (vw S f) ∧ Q (.bl (eqD (vw S e) (vw S f))) S := Iff.rfl
@[simp] theorem s_ne : rdNe e f S Q ↔ okE (vw S e) (vw S f) ∧ Q (.bl (!eqD (vw S e) (vw S f))) S := Iff.rfl
@[simp] theorem s_isN : rdIsN e f S Q ↔ f = .non ∧ Q (.bl (isNon e)) S := Iff.rfl
@[simp] theorem s_notN : rdNotN e f S Q ↔ f = .non ∧ Q (.bl (!isNon e)) S := Iff.rfl
@[simp] theorem s_in_l {neg : Bool} : rdInG neg e (.lst xs) S Q ↔ okD 60 e = true ∧ okDs 59 xs = true ∧ Q (.bl (neg ^^ xs.any fun z => eqD z e)) S := Iff.rfl
@[simp] theorem s_in_t {neg : Bool} : rdInG neg e (.tup xs) S Q ↔ flatD e = true ∧ xs.all flatD = true ∧ Q (.bl (neg ^^ xs.any fun z => eqD z e)) S := Iff.rfl
@[simp] theorem s_in_s {neg : Bool} : rdInG neg e (.str x) S Q ↔ ∃ c, e = .str ⟨#[c]⟩ ∧ Q (.bl (neg ^^ decide (c ∈ x.cps.toList))) S := Iff.rfl
@[simp] theorem s_ix_t : rdIx (.tup xs) e S Q ↔ ∃ i z, e = .int i ∧ L2.atI xs i = some z ∧ Q z S := Iff.rfl
@[simp] theorem s_ix_l : rdIx (.lst xs) e S Q ↔ ∃ i z, e = .int i ∧ L2.atI xs i = some z ∧ Q z S := Iff.rfl
@[simp] theorem s_ix_s : rdIx (.str x) e S Q ↔ x.length ≤ 1000000 ∧ ∃ i c, e = .int i ∧ L2.atI x.cps.toList i = some c ∧ Q (.str ⟨#[c]⟩) S := Iff.rfl
theorem vw_refl {p : Addr} {o : List D} (h : S p = some (.lst o)) : vw S (.ref p) = .lst o := by
  show (match S p with
    | some (.lst ds) => D.lst ds
    | some (.dct k) => .dct k
    | _ => .ref p) = _
  rw [h]
theorem vw_refd {p : Addr} {o : List (Key × D)} (h : S p = some (.dct o)) : vw S (.ref p) = .dct o := by
  show (match S p with
    | some (.lst ds) => D.lst ds
    | some (.dct k) => .dct k
    | _ => .ref p) = _
  rw [h]
theorem s_ix_ref {p : Addr} {o : List D} (h : S p = some (.lst o)) : rdIx (.ref p) e S Q ↔ ∃ i z, e = .int i ∧ L2.atI o i = some z ∧ Q z S := by unfold rdIx; rw [vw_refl h]
@[simp] theorem s_sl_t {lo hi : Option Int} : rdSl (.tup xs) lo hi S Q ↔ Q (.tup (cutD xs lo hi)) S := Iff.rfl
@[simp] theorem s_sl_l {lo hi : Option Int} : rdSl (.lst xs) lo hi S Q ↔ Q (.lst (cutD xs lo hi)) S := Iff.rfl
@[simp] theorem s_sl_c {lo hi : Option Int} {ns : List Int} : rdSl (.scr ns) lo hi S Q ↔ Q (.lst (cutD (ns.map .int) lo hi)) S := Iff.rfl
@[simp] theorem s_sl_s {lo hi : Option Int} : rdSl (.str x) lo hi S Q ↔ x.length ≤ 1000000 ∧ Q (.str (cutS x lo hi)) S := Iff.rfl
@[simp] theorem s_len : rdLen [e] S Q ↔ ∃ n, lenD (vw S e) = some n ∧ Q (.int n) S := by
  constructor
  · rintro ⟨x, n, h1, h2, h3⟩; cases h1; exact ⟨n, h2, h3⟩
  · rintro ⟨n, h2, h3⟩; exact ⟨e, n, rfl, h2, h3⟩
@[simp] theorem len_l : lenD (.lst xs) = some (xs.length : Int) := rfl
@[simp] theorem len_t : lenD (.tup xs) = some (xs.length : Int) := rfl
@[simp] theorem len_c {ns : List Int} : lenD (.scr ns) = some (ns.length : Int) := rfl
@[simp] theorem len_s : lenD (.str x) = if x.length ≤ 1000000 then some (x.length : Int) else none := rfl
@[simp] theorem s_isi {T : String} : rdIsi [e, .ty T] S Q ↔ T ∈ ["bool", "int", "str", "tuple", "list", "dict"] ∧ ∃ tn, tnD (vw S e) = some tn ∧ Q (.bl (isA tn T)) S := by
  constructor
  · rintro ⟨x, T', tn, h1, h2, h3, h4⟩; cases h1; exact ⟨h2, tn, h3, h4⟩
  · rintro ⟨h2, tn, h3, h4⟩; exact ⟨e, T, tn, rfl, h2, h3, h4⟩
@[simp] theorem tn_non : tnD .non = some "NoneType" := rfl
@[simp] theorem tn_bl : tnD (.bl bo) = some "bool" := rfl
@[simp] theorem tn_int : tnD (.int a) = some "int" := rfl
@[simp] theorem tn_str : tnD (.str x) = some "str" := rfl
@[simp] theorem tn_tup : tnD (.tup xs) = some "tuple" := rfl
@[simp] theorem tn_lst : tnD (.lst xs) = some "list" := rfl
@[simp] theorem tn_scr {ns : List Int} : tnD (.scr ns) = some "list" := rfl
@[simp] theorem tn_dct {k : List (Key × D)} : tnD (.dct k) = some "dict" := rfl
@[simp] theorem isNon_non : isNon .non = true := rfl
@[simp] theorem isNon_int : isNon (.int a) = false := rfl
@[simp] theorem isNon_str : isNon (.str x) = false := rfl
@[simp] theorem isNon_tup : isNon (.tup xs) = false := rfl
@[simp] theorem isNon_lst : isNon (.lst xs) = false := rfl
@[simp] theorem isNon_bl : isNon (.bl bo) = false := rfl
@[simp] theorem isNon_ref {p : Addr} : isNon (.ref p) = false := rfl
@[simp] theorem eq_ii : eqD (.int a) (.int b) = (a == b) := rfl
@[simp] theorem eq_ss : eqD (.str x) (.str y) = (x == y) := rfl
@[simp] theorem eq_tt : eqD (.tup xs) (.tup ys) = eqDs xs ys := rfl
@[simp] theorem eq_ll : eqD (.lst xs) (.lst ys) = eqDs xs ys := rfl
@[simp] theorem eqs_nil : eqDs [] [] = true := rfl
@[simp] theorem eqs_cons : eqDs (e :: xs) (f :: ys) = (eqD e f && eqDs xs ys) := rfl
@[simp] theorem eqs_nc : eqDs [] (f :: ys) = false := rfl
@[simp] theorem eqs_cn : eqDs (e :: xs) [] = false := rfl
@[simp] theorem okE_s : okE e f ↔ okD 60 e = true ∧ okD 60 f = true := Iff.rfl
@[simp] theorem ok_int {n : Nat} : okD n (.int a) = true := by cases n <;> rfl
@[simp] theorem ok_non {n : Nat} : okD n .non = true := by cases n <;> rfl
@[simp] theorem ok_bl {n : Nat} : okD n (.bl bo) = true := by cases n <;> rfl
@[simp] theorem ok_str {n : Nat} : okD n (.str x) = okS x := by cases n <;> rfl
@[simp] theorem ok_tup {n : Nat} : okD (n + 1) (.tup xs) = okDs n xs := rfl
@[simp] theorem ok_lst {n : Nat} : okD (n + 1) (.lst xs) = okDs n xs := rfl
@[simp] theorem ok_tup60 : okD 60 (.tup xs) = okDs 59 xs := rfl
@[simp] theorem ok_lst60 : okD 60 (.lst xs) = okDs 59 xs := rfl
@[simp] theorem oks_nil {n : Nat} : okDs n [] = true := by cases n <;> rfl
@[simp] theorem oks_cons {n : Nat} : okDs n (e :: xs) = (okD n e && okDs n xs) := by cases n <;> rfl
@[simp] theorem items_l : itemsOf (.lst xs) = some xs := rfl
@[simp] theorem items_t : itemsOf (.tup xs) = some xs := rfl
@[simp] theorem asg_nm {k : Nat} : asg (.nm k) e ρ = some (ρ.set k (some e)) := rfl
@[simp] theorem asg_tp {ts : List Tg} : asg (.tp ts) (.tup xs) ρ = asgs ts xs ρ := rfl
@[simp] theorem asg_tpl {ts : List Tg} : asg (.tp ts) (.lst xs) ρ = asgs ts xs ρ := rfl
@[simp] theorem asgs_nil : asgs [] [] ρ = some ρ := rfl
@[simp] theorem asgs_cons {t : Tg} {ts : List Tg} : asgs (t :: ts) (e :: xs) ρ = (asg t e ρ).bind fun ρ1 => asgs ts xs ρ1 := rfl
@[simp] theorem forW_nil {T : Tg} : forW T ts EE [] ρ S ↔ EE.nx ρ S := Iff.rfl
@[simp] theorem forW_cons {T : Tg} : forW T ts EE (e :: xs) ρ S ↔ ∃ ρ', asg T e ρ = some ρ' ∧ ts { EE with nx := forW T ts EE xs, ct := forW T ts EE xs, bk := EE.nx } ρ' S := Iff.rfl
@[simp] theorem s_abs : rdAbs [.int a] S Q ↔ Q (.int (if a < 0 then -a else a)) S := by
  constructor
  · rintro ⟨i, h, q⟩; cases h; exact q
  · exact fun q => ⟨a, rfl, q⟩
@[simp] theorem s_max2 : rdMax2 [.int a, .int b] S Q ↔ Q (.int (if b > a then b else a)) S := by
  constructor
  · rintro ⟨i, j, h, q⟩; cases h; exact q
  · exact fun q => ⟨a, b, rfl, q⟩
@[simp] theorem s_min2 : rdMin2 [.int a, .int b] S Q ↔ Q (.int (if b < a then b else a)) S := by
  constructor
  · rintro ⟨i, j, h, q⟩; cases h; exact q
  · exact fun q => ⟨a, b, rfl, q⟩
@[simp] theorem s_tuple_l : rdTuple [.lst xs] S Q ↔ Q (.tup xs) S := by
  constructor
  · rintro ⟨x, ys, h, h2, q⟩; cases h; cases h2; exact q
  · exact fun q => ⟨_, xs, rfl, rfl, q⟩
@[simp] theorem isA_s {tn T : String} : isA tn T = (tn == T || (tn == "bool" && T == "int")) := rfl
theorem s_all {g : D → Bool} (h : Q (.bl (xs.all g)) S) : rdAll [.lst (xs.map fun d => .bl (g d))] S Q := ⟨_, xs.map g, rfl, by simp, by simpa [Function.comp_def] using h⟩
theorem s_any {g : D → Bool} (h : Q (.bl (xs.any g)) S) : rdAny [.lst (xs.map fun d => .bl (g d))] S Q := ⟨_, xs.map g, rfl, by simp, by simpa [Function.comp_def] using h⟩
end
section
variable {ρ : Rho} {S : IS} {Ql : List D → IS → Prop} {tt : DTt}
/-- a comprehension of pure things -/
theorem comp_pure {T : Tg} {te : DE} {p : D → Bool} {g : D → D} : ∀ {xs acc : List D}, (∀ d ∈ xs, ∃ ρ', asg T d ρ = some ρ' ∧ ∀ (Qb : Bool → IS → Prop), (Qb (p d) S) → tt ρ' S Qb (fun _ _ _ => False)) →
    (∀ d ∈ xs, p d = true → ∀ ρ', asg T d ρ = some ρ' → ∀ (Q : DK), Q (g d) S → te ρ' S Q (fun _ _ _ => False)) → Ql (acc ++ (xs.filter p).map g) S → compW T tt te ρ xs acc S Ql
  | [], acc, _, _, h => by simpa [compW] using h
  | d :: xs, acc, h1, h2, h => by
    obtain ⟨ρ', e1, k⟩ := h1 d (by simp)
    refine ⟨ρ', e1, k _ ?_⟩
    cases hp : p d with
    | true =>
      rw [if_pos rfl]
      refine h2 d (by simp) hp ρ' e1 _ ?_
      refine comp_pure (fun d hd => h1 d (by simp [hd])) (fun d hd => h2 d (by simp [hd])) ?_
      simpa [List.filter_cons, hp] using h
    | false =>
      rw [if_neg Bool.false_ne_true]
      refine comp_pure (fun d hd => h1 d (by simp [hd])) (fun d hd => h2 d (by simp [hd])) ?_
      simpa [List.filter_cons, hp] using h
/-- .. without a test -/
theorem comp_map {T : Tg} {te : DE} {g : D → D} {xs : List D} (h : ∀ d ∈ xs, ∃ ρ', asg T d ρ = some ρ' ∧ ∀ (Q : DK), Q (g d) S → te ρ' S Q (fun _ _ _ => False)) (q : Ql (xs.map g) S) : compW T dYes te ρ xs [] S Ql := by
  refine comp_pure (p := fun _ => true) (g := g) (fun d hd => ?_) (fun d hd _ ρ' e1 Q k => ?_) (by rw [List.filter_eq_self.mpr (fun _ _ => rfl)]; exact q)
  · obtain ⟨ρ', e1, _⟩ := h d hd
    exact ⟨ρ', e1, fun Qb k => k⟩
  · obtain ⟨ρ2, e2, k2⟩ := h d hd
    rw [e1] at e2; cases e2
    exact k2 Q k
/-- .. of things that draw: I stands all along, P of each -/
theorem comp_inv {T : Tg} {te : DE} (I : IS → Prop) (Pr : D → Prop) : ∀ {xs acc : List D} {S : IS}, (∀ d ∈ xs, ∃ ρ', asg T d ρ = some ρ' ∧ ∀ (S : IS) (Q : DK), I S → (∀ y S', I S' → Pr y → Q y S') → te ρ' S Q (fun _ _ _ => False)) → I S → (∀ y ∈ acc, Pr y) →
    (∀ ys S', I S' → (∀ y ∈ ys, Pr y) → ys.length = acc.length + xs.length → Ql ys S') → compW T dYes te ρ xs acc S Ql
  | [], acc, S, _, i, ha, q => q acc S i ha (by simp)
  | d :: xs, acc, S, h, i, ha, q => by
    obtain ⟨ρ', e1, k⟩ := h d (by simp)
    refine ⟨ρ', e1, ?_⟩
    show (if true = true then te ρ' S (fun y S2 => compW T dYes te ρ xs (acc ++ [y]) S2 Ql) (fun _ _ _ => False) else compW T dYes te ρ xs acc S Ql)
    rw [if_pos rfl]
    refine k S _ i fun y S' i' hy => ?_
    refine comp_inv I Pr (fun d' hd => h d' (by simp [hd])) i' (fun z hz => ?_) fun ys S'' i'' h1 h2 => q ys S'' i'' h1 (by simp at h2 ⊢; omega)
    rcases List.mem_append.mp hz with z1 | z1
    · exact ha z z1
    · rw [List.mem_singleton.mp z1]; exact hy
end
end DL

set_option Elab.async false
set_option linter.all false
set_option autoImplicit false
set_option maxRecDepth 100000
set_option maxHeartbeats 2000000
/-! DL12: what is not told any more; promises that are never asked. -/
namespace DL
open PySem PySem.Spec L2 NdefX

/-- S'' tells some of what S' tells -/
def Less (S'' S' : IS) : Prop := ∀ b, S'' b = S' b ∨ S'' b = none
theorem Less.refl (S : IS) : Less S S := fun _ => .inl rfl
theorem less_upd {S : IS} {a : Addr} {o : IO} (h : S a = none) : Less S (updS S a o) := fun b => by
  by_cases e : b = a
  · subst e; exact .inr h
  · exact .inl (updS_ne e).symm
theorem Less.trans {S1 S2 S3 : IS} (a : Less S1 S2) (b : Less S2 S3) : Less S1 S3 := fun c => by
  rcases a c with h | h
  · rcases b c with g | g
    · exact .inl (h.trans g)
    · exact .inr (h.trans g)
  · exact .inr h
theorem After.forget {K : PySem.W.Frag} {H H' : Hp} {S S' S'' : IS} {F F' : Hp} (A : After K H S F H' S' F') (l : Less S'' S') : After K H S F H' S'' F' := by
  have z : ∀ b, S' b = none → S'' b = none := fun b e => by
    rcases l b with h | h
    · rw [h, e]
    · exact h
  refine ⟨⟨fun b o e => ⟨(A.r0.fz b o e).1, z b (A.r0.fz b o e).2⟩, fun b i e => ?_, A.r0.nt⟩, A.same, fun b o e1 e0 e2 => ?_⟩
  · rcases l b with h | h
    · exact A.r0.io b i (by rw [← h]; exact e)
    · rw [h] at e; cases e
  · obtain ⟨h1, h2, h3⟩ := A.keep b o e1 e0 e2
    exact ⟨h1, z b h2, h3⟩
def forE (Q : DK) (E : XKd) : DEnds := retE (fun d S' => ∃ S'', Less S'' S' ∧ Q d S'') (fun cls xa S' => ∃ S'', Less S'' S' ∧ E cls xa S'')
/-- THE RULE for a def; things of its own may be left behind -/
theorem fn_df {P : Program} {w : World} {K : PySem.W.Frag} {mg : Str → Option Value} {base : Heap} {x qual : Str} {st : Stmt} {f : Addr} {fd : FuncData} {N ps : List Str} {k : Nat} {sp : SpD} {t : DSt} (F : Fun K x qual st f fd) (Sc : FnScope N ps (defScope st)) (len : ∀ ds S Q E, sp ds S Q E → ds.length = ps.length)
    (hbody : ∀ (X : Cx) (W : WX) (cdv : Value) (A : Around) (outer : List Env) (s : Shared) (H : Hp) (E : XK), Room k (A.deeper (PyProof.Rows.envOfC qual (defScope st) s.heap.objs.size f cdv)) →
      X = cxOf (L2.CX P w) P w K mg base N qual (defScope st) f cdv A outer s H E → Takes X W → PassesOwn (model X.prog X.w) X.A X.env X.xe → DSs X W (defBody st) t)
    (hread : ∀ ds S Q E, sp ds S Q E → t (forE Q E) (startD N ds) S) : FnD P w K mg base (k + 1) f fd ps sp := by
  have h := fn_d (P := P) (w := w) (mg := mg) (base := base) (sp := fun ds S Q E => ds.length = ps.length ∧ t (retE Q E) (startD N ds) S) F Sc (fun ds S Q E h => h.1) hbody fun ds S Q E h => h.2
  refine h.imp fun vs H Q E hs => ?_
  obtain ⟨ds, S, F', Qd, Ed, r0, dn, hs, kq, kx⟩ := hs
  refine ⟨ds, S, F', _, _, r0, dn, ⟨len _ _ _ _ hs, hread ds S Qd Ed hs⟩, fun v H' S' F2 d A n q => ?_, fun cls dd xa H' S' F2 A z q => ?_⟩
  · obtain ⟨S'', l, q⟩ := q
    exact kq v H' S'' F2 d (A.forget l) n q
  · obtain ⟨S'', l, q⟩ := q
    exact kx cls dd xa H' S'' F2 (A.forget l) z q
/-- a def whose code object is known -/
structure FunC (K : PySem.W.Frag) (x qual : Str) (st : Stmt) (f : Addr) (fd : FuncData) (cd : Addr) : Prop where
  ex : ∃ (oc : Value) (od : Option Addr) (kV doc pm : Value) (an : Option Addr) (ct : Value) (osl : Array (Option Value)),
    fd = PySem.W.fnOf x qual (defArgs st) (defBody st) (defScope st) .none kV doc pm an (.ref cd) ct ∧ K.lookup f = some ⟨oc, od, .func fd, osl⟩ ∧ PySem.W.codeIn K (.ref cd) qual = true
  kp : PySem.W.keepIn K (.ref f) = true
theorem nok_never {P : Program} {w : World} {K : PySem.W.Frag} {mg : Str → Option Value} {base : Heap} {k : Nat} {F : NF} {f : Addr} {ps fr : List Str} {us : List V} {sp : SpC} (h : ∀ ds S Q, ¬ sp us ds S Q) : NOk P w K mg base (L2.CX P w) k f F ps fr (NLSp K us sp) :=
  ⟨fun ws vs H Q E z => by
    obtain ⟨_, ds, S, F', Qd, _, _, z, _⟩ := z
    exact (h ds S Qd z).elim, fun A outer s H us' vs ws Q E _ _ _ _ _ _ z => by
    obtain ⟨_, ds, S, F', Qd, _, _, z, _⟩ := z
    exact (h ds S Qd z).elim⟩
section
variable {Q : DK} {E : XKd} {ρ : Rho} {S : IS} {d : D}
@[simp] theorem forE_nx : (forE Q E).nx ρ S ↔ ∃ S'', Less S'' S ∧ Q .non S'' := Iff.rfl
@[simp] theorem forE_rt : (forE Q E).rt d S ↔ ∃ S'', Less S'' S ∧ Q d S'' := Iff.rfl
@[simp] theorem forE_xc {cls : Value} {xa : XA} : (forE Q E).xc cls xa ρ S ↔ ∃ S'', Less S'' S ∧ E cls xa S'' := Iff.rfl
end
/-- a loop by what holds ahead of each rest -/
theorem forW_ind {T : Tg} {tb : DSt} {EE : DEnds} (P : List D → Rho → IS → Prop) (h0 : ∀ ρ S, P [] ρ S → EE.nx ρ S)
    (h1 : ∀ d ds ρ S, P (d :: ds) ρ S → (∀ ρ' S', P ds ρ' S' → forW T tb EE ds ρ' S') → ∃ ρ', asg T d ρ = some ρ' ∧ tb { EE with nx := forW T tb EE ds, ct := forW T tb EE ds, bk := EE.nx } ρ' S) :
    ∀ ds ρ S, P ds ρ S → forW T tb EE ds ρ S
  | [], ρ, S, h => h0 ρ S h
  | d :: ds, ρ, S, h => h1 d ds ρ S h fun ρ' S' h' => forW_ind P h0 h1 ds ρ' S' h'
/-- a, b, c = x, y, z with plain names -/
def dPar3 (i j l : Nat) (ta : DAt) : DSt := fun E ρ S => ta ρ S (fun ds S1 => ∃ d1 d2 d3, ds = [d1, d2, d3] ∧ E.nx (((ρ.set i (some d1)).set j (some d2)).set l (some d3)) S1) (exOf E ρ)
@[simp] theorem s_dPar3 {i j l : Nat} {ua : DAt} {EE : DEnds} {ρ : Rho} {S : IS} : dPar3 i j l ua EE ρ S ↔ ua ρ S (fun ds S1 => ∃ d1 d2 d3, ds = [d1, d2, d3] ∧ EE.nx (((ρ.set i (some d1)).set j (some d2)).set l (some d3)) S1) (exOf EE ρ) := Iff.rfl
theorem s_par3 {X : Cx} {W : WX} {j k l : Nat} {x y z : Str} {a b c : Expr} {uA : DAt} {px py pz pt pos : Pos} {kt k2 pt2} (hc : X.calm = true) (hN : X.N.Nodup) (ha : DA X W [a, b, c] uA) (hi : X.N[j]? = some x := by rfl) (hj : X.N[k]? = some y := by rfl) (hl : X.N[l]? = some z := by rfl)
    (hij : j ≠ k := by decide) (hil : j ≠ l := by decide) (hjl : k ≠ l := by decide)
    (hx : X.env.scope.names.lookup x = some .local := by rfl) (hy : X.env.scope.names.lookup y = some .local := by rfl) (hz : X.env.scope.names.lookup z = some .local := by rfl)
    (hw : swappedStores [.Tuple [.Name x px, .Name y py, .Name z pz] kt pt] (.Tuple [a, b, c] k2 pt2) X.env = pure (some [x, y, z]) := by rfl)
    (hs : swapsWithSole [.Tuple [.Name x px, .Name y py, .Name z pz] kt pt] (.Tuple [a, b, c] k2 pt2) pos.line X.env = pure false := by rfl) :
    DS X W (.Assign [.Tuple [.Name x px, .Name y py, .Name z pz] kt pt] (.Tuple [a, b, c] k2 pt2) pos) (dPar3 j k l uA) :=
  (ps_par3 hc hN hi hj hl hij hil hjl hx hy hz ha hw hs).weaken fun D σ H q => by
    obtain ⟨ρ, S, F, E, R, q1, k⟩ := q
    refine ⟨ρ, S, F, _, _, R, q1, fun vs H1 S1 F1 ds A1 dn q2 => ?_, k.wok R⟩
    obtain ⟨d1, d2, d3, e, q2⟩ := q2
    subst e
    cases dn with
    | cons n1 dn =>
      cases dn with
      | cons n2 dn =>
        cases dn with
        | cons n3 dn =>
          cases dn
          exact ⟨_, _, _, rfl, k.nx _ H1 _ S1 F1 A1 ((((R.after A1).set n1 _).set n2 _).set n3 _) q2⟩
/-- try .. except C: with the written part by its name -/
theorem s_try {X : Cx} {W : WX} {Kk : PySem.W.Frag} {x : Str} {c : Value} {body suite : List Stmt} {b₀ : Stmt} {pos np pos' : Pos} {tb ts : DSt} (eK : X.K = Kk) (hs : X.stack = X.env :: X.outer) (hf : X.env.frame = some X.env.locals) (hc : Names X x c) (tk : Takes X W)
    (hb : ∀ (W' : WX) (pn : List (Addr × Obj)) (xe : Value → Shared → Prop), Takes (X.tr pn xe) W' → PassesOwn (model X.prog X.w) X.A X.env xe → DSs (X.tr pn xe) W' body tb)
    (hsu : ∀ (a : Addr) (pn : List (Addr × Obj)), DSs (X.suite a pn) W0 (b₀ :: suite) ts) :
    DS X W (.Try body [.ExceptHandler (some (.Name x np)) none (b₀ :: suite) pos'] [] [] pos) (dTry (fun cls => PySem.W.exmOne Kk cls c) tb ts) := by
  subst eK
  exact ds_try hs hf hc tk hb hsu
end DL

set_option Elab.async false
set_option linter.all false
set_option autoImplicit false
set_option maxRecDepth 100000
set_option maxHeartbeats 4000000
namespace K43
open PySem PySem.Spec L2 DL NdefX
def topS (i : Nat) : Stmt := PySem.Challenge.pw_clearyard_k43_whole_promises_there_and_b.main.body.getD i (.Pass ⟨0, 0, 0, 0⟩)
abbrev s_is_number : Stmt := topS 8
theorem sc_is_number : FnScope ["thing", "low", "high"] ["thing", "low", "high"] (defScope s_is_number) := ⟨rfl, rfl, rfl, by decide +kernel, rfl, by decide +kernel, by decide +kernel⟩
abbrev s_is_amount : Stmt := topS 9
theorem sc_is_amount : FnScope ["thing"] ["thing"] (defScope s_is_amount) := ⟨rfl, rfl, rfl, by decide +kernel, rfl, by decide +kernel, by decide +kernel⟩
abbrev s_is_time : Stmt := topS 10
theorem sc_is_time : FnScope ["thing"] ["thing"] (defScope s_is_time) := ⟨rfl, rfl, rfl, by decide +kernel, rfl, by decide +kernel, by decide +kernel⟩
abbrev s_is_promise : Stmt := topS 15
theorem sc_is_promise : FnScope ["thing", "mark", "by", "amount", "lock", "until"] ["thing"] (defScope s_is_promise) := ⟨rfl, rfl, rfl, by decide +kernel, rfl, by decide +kernel, by decide +kernel⟩
abbrev s_are_promises : Stmt := topS 16
theorem sc_are_promises : FnScope ["thing", "one", "more"] ["thing"] (defScope s_are_promises) := ⟨rfl, rfl, rfl, by decide +kernel, rfl, by decide +kernel, by decide +kernel⟩
abbrev s_is_state : Stmt := topS 17
theorem sc_is_state : FnScope ["thing", "word", "pool", "turn", "x", "y", "promises"] ["thing"] (defScope s_is_state) := ⟨rfl, rfl, rfl, by decide +kernel, rfl, by decide +kernel, by decide +kernel⟩
abbrev s_need_state : Stmt := topS 18
theorem sc_need_state : FnScope ["thing"] ["thing"] (defScope s_need_state) := ⟨rfl, rfl, rfl, by decide +kernel, rfl, by decide +kernel, by decide +kernel⟩
abbrev s_is_key : Stmt := topS 21
theorem sc_is_key : FnScope ["thing", "sign"] ["thing"] (defScope s_is_key) := ⟨rfl, rfl, rfl, by decide +kernel, rfl, by decide +kernel, by decide +kernel⟩
abbrev s_is_secret : Stmt := topS 22
theorem sc_is_secret : FnScope ["thing"] ["thing"] (defScope s_is_secret) := ⟨rfl, rfl, rfl, by decide +kernel, rfl, by decide +kernel, by decide +kernel⟩
abbrev s_need_secret : Stmt := topS 23
theorem sc_need_secret : FnScope ["thing"] ["thing"] (defScope s_need_secret) := ⟨rfl, rfl, rfl, by decide +kernel, rfl, by decide +kernel, by decide +kernel⟩
abbrev s_lock_of : Stmt := topS 24
theorem sc_lock_of : FnScope ["secret", "digest"] ["secret", "digest"] (defScope s_lock_of) := ⟨rfl, rfl, rfl, by decide +kernel, rfl, by decide +kernel, by decide +kernel⟩
abbrev s_mover : Stmt := topS 27
theorem sc_mover : FnScope ["state"] ["state"] (defScope s_mover) := ⟨rfl, rfl, rfl, by decide +kernel, rfl, by decide +kernel, by decide +kernel⟩
abbrev s_is_move : Stmt := topS 28
theorem sc_is_move : FnScope ["thing", "word", "parts"] ["thing"] (defScope s_is_move) := ⟨rfl, rfl, rfl, by decide +kernel, rfl, by decide +kernel, by decide +kernel⟩
abbrev s_promise_of : Stmt := topS 29
theorem sc_promise_of : FnScope ["state", "mark", "promise"] ["state", "mark"] (defScope s_promise_of) := ⟨rfl, rfl, rfl, by decide +kernel, rfl, by decide +kernel, by decide +kernel⟩
abbrev s_with_sums : Stmt := topS 30
theorem sc_with_sums : FnScope ["state", "party", "more", "promises", "word", "pool", "turn", "x", "y", "elder", "sums"] ["state", "party", "more", "promises"] (defScope s_with_sums) := ⟨rfl, rfl, rfl, by decide +kernel, rfl, by decide +kernel, by decide +kernel⟩
abbrev s_after_give : Stmt := topS 31
theorem sc_after_give : FnScope ["state", "party", "parts", "mark", "amount", "lock", "until", "promise"] ["state", "party", "parts"] (defScope s_after_give) := ⟨rfl, rfl, rfl, by decide +kernel, rfl, by decide +kernel, by decide +kernel⟩
abbrev s_after_taking : Stmt := topS 32
theorem sc_after_taking : FnScope ["state", "party", "move", "digest", "word", "mark", "more", "promise", "others", "one"] ["state", "party", "move", "digest"] (defScope s_after_taking) := ⟨rfl, rfl, rfl, by decide +kernel, rfl, by decide +kernel, by decide +kernel⟩
abbrev s_led_to : Stmt := topS 33
theorem sc_led_to : FnScope ["state", "party", "move", "digest", "word", "parts", "found"] ["state", "party", "move", "digest"] (defScope s_led_to) := ⟨rfl, rfl, rfl, by decide +kernel, rfl, by decide +kernel, by decide +kernel⟩
abbrev s_moved : Stmt := topS 34
theorem sc_moved : FnScope ["state", "party", "move", "digest", "found"] ["state", "party", "move", "digest"] (defScope s_moved) := ⟨rfl, rfl, rfl, by decide +kernel, rfl, by decide +kernel, by decide +kernel⟩
abbrev s__law_begin : Stmt := topS 36
theorem sc__law_begin : FnScope ["_law_script", "_law_cells", "_law_cell"] ["_law_script"] (defScope s__law_begin) := ⟨rfl, rfl, rfl, by decide +kernel, rfl, by decide +kernel, by decide +kernel⟩
abbrev s__law_take : Stmt := topS 37
theorem sc__law_take : FnScope ["_law_draw", "_law_size", "_law_cells", "_law_at", "_law_cell"] ["_law_draw", "_law_size"] (defScope s__law_take) := ⟨rfl, rfl, rfl, by decide +kernel, rfl, by decide +kernel, by decide +kernel⟩
abbrev s__law_pick : Stmt := topS 38
theorem sc__law_pick : FnScope ["_law_draw", "_law_some"] ["_law_draw", "_law_some"] (defScope s__law_pick) := ⟨rfl, rfl, rfl, by decide +kernel, rfl, by decide +kernel, by decide +kernel⟩
abbrev s__law_digest : Stmt := topS 40
theorem sc__law_digest : FnScope ["_law_draw", "_law_met", "_law_step_here", "_law_asked"] ["_law_draw"] (defScope s__law_digest) := ⟨rfl, rfl, rfl, by decide +kernel, rfl, by decide +kernel, by decide +kernel⟩
abbrev s__law_words : Stmt := topS 41
theorem sc__law_words : FnScope ["_law_draw", "_law_many", "_law_letters", "_law_found", "_law_k", "_law_size", "_law_word", "_law_some", "_law_j", "_law_sign", "_law_one"] ["_law_draw", "_law_many"] (defScope s__law_words) := ⟨rfl, rfl, rfl, by decide +kernel, rfl, by decide +kernel, by decide +kernel⟩
abbrev s__law_pool : Stmt := topS 42
theorem sc__law_pool : FnScope ["_law_draw", "_law_dig", "_law_secrets", "_law_found", "_law_last", "_law_k", "_law_bolt", "_law_sums"] ["_law_draw", "_law_dig", "_law_secrets"] (defScope s__law_pool) := ⟨rfl, rfl, rfl, by decide +kernel, rfl, by decide +kernel, by decide +kernel⟩
abbrev s__law_next : Stmt := topS 44
theorem sc__law_next : FnScope ["_law_state", "_law_step_here", "_law_dig", "_law_found"] ["_law_state", "_law_step_here", "_law_dig"] (defScope s__law_next) := ⟨rfl, rfl, rfl, by decide +kernel, rfl, by decide +kernel, by decide +kernel⟩
abbrev s__law_given : Stmt := topS 45
theorem sc__law_given : FnScope ["_law_draw", "_law_state", "_law_dig", "_law_secret", "_law_side", "_law_mark", "_law_held", "_law_step_here", "_law_one"] ["_law_draw", "_law_state", "_law_dig", "_law_secret"] (defScope s__law_given) := ⟨rfl, rfl, rfl, by decide +kernel, rfl, by decide +kernel, by decide +kernel⟩
abbrev s__law_over : Stmt := topS 46
theorem sc__law_over : FnScope ["_law_later", "_law_mark", "_law_dig", "_law_words_here", "_law_state", "_law_step_here", "_law_word"] ["_law_later", "_law_mark", "_law_dig", "_law_words_here"] (defScope s__law_over) := ⟨rfl, rfl, rfl, by decide +kernel, rfl, by decide +kernel, by decide +kernel⟩
abbrev s__law_right : Stmt := topS 47
theorem sc__law_right : FnScope ["_law_state", "_law_later", "_law_step_here", "_law_dig", "_law_words_here", "_law_side", "_law_mark", "_law_held", "_law_by_other", "_law_claimed", "_law_paid", "_law_step_more", "_law_on", "_law_late"] ["_law_state", "_law_later", "_law_step_here", "_law_dig", "_law_words_here"] (defScope s__law_right) := ⟨rfl, rfl, rfl, by decide +kernel, rfl, by decide +kernel, by decide +kernel⟩
abbrev s_law : Stmt := topS 48
theorem sc_law : FnScope ["_law_script", "_law_draw", "_law_turn", "_law_dig", "_law_words_here", "_law_state", "_law_k", "_law_given_here", "_law_later", "_law_step_here"] ["_law_script"] (defScope s_law) := ⟨rfl, rfl, rfl, by decide +kernel, rfl, by decide +kernel, by decide +kernel⟩
structure Txt (K : PySem.W.Frag) (mg : Str → Option Value) (w : World) where
  a_is_number : Addr
  fd_is_number : FuncData
  F_is_number : Fun K "is_number" "is_number" s_is_number a_is_number fd_is_number
  b_is_number : Binds K fd_is_number ["thing", "low", "high"] []
  g_is_number : mg "is_number" = some (.ref a_is_number)
  a_is_amount : Addr
  fd_is_amount : FuncData
  F_is_amount : Fun K "is_amount" "is_amount" s_is_amount a_is_amount fd_is_amount
  b_is_amount : Binds K fd_is_amount ["thing"] []
  g_is_amount : mg "is_amount" = some (.ref a_is_amount)
  a_is_time : Addr
  fd_is_time : FuncData
  F_is_time : Fun K "is_time" "is_time" s_is_time a_is_time fd_is_time
  b_is_time : Binds K fd_is_time ["thing"] []
  g_is_time : mg "is_time" = some (.ref a_is_time)
  a_is_promise : Addr
  fd_is_promise : FuncData
  F_is_promise : Fun K "is_promise" "is_promise" s_is_promise a_is_promise fd_is_promise
  b_is_promise : Binds K fd_is_promise ["thing"] []
  g_is_promise : mg "is_promise" = some (.ref a_is_promise)
  a_are_promises : Addr
  fd_are_promises : FuncData
  F_are_promises : Fun K "are_promises" "are_promises" s_are_promises a_are_promises fd_are_promises
  b_are_promises : Binds K fd_are_promises ["thing"] []
  g_are_promises : mg "are_promises" = some (.ref a_are_promises)
  a_is_state : Addr
  fd_is_state : FuncData
  F_is_state : Fun K "is_state" "is_state" s_is_state a_is_state fd_is_state
  b_is_state : Binds K fd_is_state ["thing"] []
  g_is_state : mg "is_state" = some (.ref a_is_state)
  a_need_state : Addr
  fd_need_state : FuncData
  F_need_state : Fun K "need_state" "need_state" s_need_state a_need_state fd_need_state
  b_need_state : Binds K fd_need_state ["thing"] []
  g_need_state : mg "need_state" = some (.ref a_need_state)
  a_is_key : Addr
  fd_is_key : FuncData
  F_is_key : Fun K "is_key" "is_key" s_is_key a_is_key fd_is_key
  b_is_key : Binds K fd_is_key ["thing"] []
  g_is_key : mg "is_key" = some (.ref a_is_key)
  a_is_secret : Addr
  fd_is_secret : FuncData
  F_is_secret : Fun K "is_secret" "is_secret" s_is_secret a_is_secret fd_is_secret
  b_is_secret : Binds K fd_is_secret ["thing"] []
  g_is_secret : mg "is_secret" = some (.ref a_is_secret)
  a_need_secret : Addr
  fd_need_secret : FuncData
  F_need_secret : Fun K "need_secret" "need_secret" s_need_secret a_need_secret fd_need_secret
  b_need_secret : Binds K fd_need_secret ["thing"] []
  g_need_secret : mg "need_secret" = some (.ref a_need_secret)
  a_lock_of : Addr
  fd_lock_of : FuncData
  F_lock_of : Fun K "lock_of" "lock_of" s_lock_of a_lock_of fd_lock_of
  b_lock_of : Binds K fd_lock_of ["secret", "digest"] []
  g_lock_of : mg "lock_of" = some (.ref a_lock_of)
  a_mover : Addr
  fd_mover : FuncData
  F_mover : Fun K "mover" "mover" s_mover a_mover fd_mover
  b_mover : Binds K fd_mover ["state"] []
  g_mover : mg "mover" = some (.ref a_mover)
  a_is_move : Addr
  fd_is_move : FuncData
  F_is_move : Fun K "is_move" "is_move" s_is_move a_is_move fd_is_move
  b_is_move : Binds K fd_is_move ["thing"] []
  g_is_move : mg "is_move" = some (.ref a_is_move)
  a_promise_of : Addr
  fd_promise_of : FuncData
  F_promise_of : Fun K "promise_of" "promise_of" s_promise_of a_promise_of fd_promise_of
  b_promise_of : Binds K fd_promise_of ["state", "mark"] []
  g_promise_of : mg "promise_of" = some (.ref a_promise_of)
  a_with_sums : Addr
  fd_with_sums : FuncData
  F_with_sums : Fun K "with_sums" "with_sums" s_with_sums a_with_sums fd_with_sums
  b_with_sums : Binds K fd_with_sums ["state", "party", "more", "promises"] []
  g_with_sums : mg "with_sums" = some (.ref a_with_sums)
  a_after_give : Addr
  fd_after_give : FuncData
  F_after_give : Fun K "after_give" "after_give" s_after_give a_after_give fd_after_give
  b_after_give : Binds K fd_after_give ["state", "party", "parts"] []
  g_after_give : mg "after_give" = some (.ref a_after_give)
  a_after_taking : Addr
  fd_after_taking : FuncData
  F_after_taking : Fun K "after_taking" "after_taking" s_after_taking a_after_taking fd_after_taking
  b_after_taking : Binds K fd_after_taking ["state", "party", "move", "digest"] []
  g_after_taking : mg "after_taking" = some (.ref a_after_taking)
  a_led_to : Addr
  fd_led_to : FuncData
  F_led_to : Fun K "led_to" "led_to" s_led_to a_led_to fd_led_to
  b_led_to : Binds K fd_led_to ["state", "party", "move", "digest"] []
  g_led_to : mg "led_to" = some (.ref a_led_to)
  a_moved : Addr
  fd_moved : FuncData
  F_moved : Fun K "moved" "moved" s_moved a_moved fd_moved
  b_moved : Binds K fd_moved ["state", "party", "move", "digest"] []
  g_moved : mg "moved" = some (.ref a_moved)
  a__law_begin : Addr
  fd__law_begin : FuncData
  F__law_begin : Fun K "_law_begin" "_law_begin" s__law_begin a__law_begin fd__law_begin
  b__law_begin : Binds K fd__law_begin ["_law_script"] []
  g__law_begin : mg "_law_begin" = some (.ref a__law_begin)
  a__law_take : Addr
  fd__law_take : FuncData
  F__law_take : Fun K "_law_take" "_law_take" s__law_take a__law_take fd__law_take
  b__law_take : Binds K fd__law_take ["_law_draw", "_law_size"] []
  g__law_take : mg "_law_take" = some (.ref a__law_take)
  a__law_pick : Addr
  fd__law_pick : FuncData
  F__law_pick : Fun K "_law_pick" "_law_pick" s__law_pick a__law_pick fd__law_pick
  b__law_pick : Binds K fd__law_pick ["_law_draw", "_law_some"] []
  g__law_pick : mg "_law_pick" = some (.ref a__law_pick)
  a__law_digest : Addr
  fd__law_digest : FuncData
  cd__law_digest : Addr
  P__law_digest : Addr
  F__law_digest : FunC K "_law_digest" "_law_digest" s__law_digest a__law_digest fd__law_digest cd__law_digest
  b__law_digest : Binds K fd__law_digest ["_law_draw"] []
  g__law_digest : mg "_law_digest" = some (.ref a__law_digest)
  a__law_words : Addr
  fd__law_words : FuncData
  F__law_words : Fun K "_law_words" "_law_words" s__law_words a__law_words fd__law_words
  b__law_words : Binds K fd__law_words ["_law_draw", "_law_many"] []
  g__law_words : mg "_law_words" = some (.ref a__law_words)
  a__law_pool : Addr
  fd__law_pool : FuncData
  F__law_pool : Fun K "_law_pool" "_law_pool" s__law_pool a__law_pool fd__law_pool
  b__law_pool : Binds K fd__law_pool ["_law_draw", "_law_dig", "_law_secrets"] []
  g__law_pool : mg "_law_pool" = some (.ref a__law_pool)
  a__law_next : Addr
  fd__law_next : FuncData
  F__law_next : Fun K "_law_next" "_law_next" s__law_next a__law_next fd__law_next
  b__law_next : Binds K fd__law_next ["_law_state", "_law_step_here", "_law_dig"] []
  g__law_next : mg "_law_next" = some (.ref a__law_next)
  a__law_given : Addr
  fd__law_given : FuncData
  F__law_given : Fun K "_law_given" "_law_given" s__law_given a__law_given fd__law_given
  b__law_given : Binds K fd__law_given ["_law_draw", "_law_state", "_law_dig", "_law_secret"] []
  g__law_given : mg "_law_given" = some (.ref a__law_given)
  a__law_over : Addr
  fd__law_over : FuncData
  F__law_over : Fun K "_law_over" "_law_over" s__law_over a__law_over fd__law_over
  b__law_over : Binds K fd__law_over ["_law_later", "_law_mark", "_law_dig", "_law_words_here"] []
  g__law_over : mg "_law_over" = some (.ref a__law_over)
  a__law_right : Addr
  fd__law_right : FuncData
  F__law_right : Fun K "_law_right" "_law_right" s__law_right a__law_right fd__law_right
  b__law_right : Binds K fd__law_right ["_law_state", "_law_later", "_law_step_here", "_law_dig", "_law_words_here"] []
  g__law_right : mg "_law_right" = some (.ref a__law_right)
  a_law : Addr
  fd_law : FuncData
  F_law : Fun K "law" "law" s_law a_law fd_law
  b_law : Binds K fd_law ["_law_script"] []
  g_law : mg "law" = some (.ref a_law)
  n_isinstance : mg "isinstance" = none
  n_bool : mg "bool" = none
  n_int : mg "int" = none
  n_len : mg "len" = none
  n_tuple : mg "tuple" = none
  n_all : mg "all" = none
  n_zip : mg "zip" = none
  n_str : mg "str" = none
  n_any : mg "any" = none
  n_abs : mg "abs" = none
  n_range : mg "range" = none
  n_min : mg "min" = none
  n_max : mg "max" = none
  v_MOST : Value
  g_MOST : mg "MOST" = some v_MOST
  i_MOST : ∃ t, v_MOST = .int 1000000000 t
  v_MOST_LOCK : Value
  g_MOST_LOCK : mg "MOST_LOCK" = some v_MOST_LOCK
  i_MOST_LOCK : ∃ t, v_MOST_LOCK = .int 1000000000000000000000000000000 t
  v_MOST_PROMISES : Value
  g_MOST_PROMISES : mg "MOST_PROMISES" = some v_MOST_PROMISES
  i_MOST_PROMISES : ∃ t, v_MOST_PROMISES = .int 4 t
  v_MOST_HAD : Value
  g_MOST_HAD : mg "MOST_HAD" = some v_MOST_HAD
  i_MOST_HAD : ∃ t, v_MOST_HAD = .int 10000000000 t
  v_LETTERS : Value
  g_LETTERS : mg "LETTERS" = some v_LETTERS
  i_LETTERS : ∃ t, v_LETTERS = .str "abcdefghijklmnopqrstuvwxyz" t
  v_LONGEST_KEY : Value
  g_LONGEST_KEY : mg "LONGEST_KEY" = some v_LONGEST_KEY
  i_LONGEST_KEY : ∃ t, v_LONGEST_KEY = .int 20 t
  a_NoState : Addr
  g_NoState : mg "NoState" = some (.ref a_NoState)
  k_NoState : PySem.W.keepIn K (.ref a_NoState) = true
  x_NoState : PySem.W.excIn K a_NoState [.type "ValueError", .type "Exception", .type "BaseException", .type "object"] "ValueError.__new__" = true
  e_NoState : PySem.W.subIn K (.ref a_NoState) (.type "BaseException") = some true
  t_NoState : PySem.W.typeIn K (.ref a_NoState) = some (.type "type")
  m_NoState : PySem.W.exmOne K (.ref a_NoState) (.ref a_NoState) = some true
  a_NoSeal : Addr
  g_NoSeal : mg "NoSeal" = some (.ref a_NoSeal)
  k_NoSeal : PySem.W.keepIn K (.ref a_NoSeal) = true
  x_NoSeal : PySem.W.excIn K a_NoSeal [.type "ValueError", .type "Exception", .type "BaseException", .type "object"] "ValueError.__new__" = true
  e_NoSeal : PySem.W.subIn K (.ref a_NoSeal) (.type "BaseException") = some true
  t_NoSeal : PySem.W.typeIn K (.ref a_NoSeal) = some (.type "type")
  m_NoSeal : PySem.W.exmOne K (.ref a_NoSeal) (.ref a_NoSeal) = some true
  a_NoMove : Addr
  g_NoMove : mg "NoMove" = some (.ref a_NoMove)
  k_NoMove : PySem.W.keepIn K (.ref a_NoMove) = true
  x_NoMove : PySem.W.excIn K a_NoMove [.type "ValueError", .type "Exception", .type "BaseException", .type "object"] "ValueError.__new__" = true
  e_NoMove : PySem.W.subIn K (.ref a_NoMove) (.type "BaseException") = some true
  t_NoMove : PySem.W.typeIn K (.ref a_NoMove) = some (.type "type")
  m_NoMove : PySem.W.exmOne K (.ref a_NoMove) (.ref a_NoMove) = some true
  a_PARTS_OF : Addr
  g_PARTS_OF : mg "PARTS_OF" = some (.ref a_PARTS_OF)
  kt_PARTS_OF : KInt K w a_PARTS_OF [("pay", 2), ("give", 5), ("claim", 3), ("back", 2), ("late", 2), ("pass", 1)]

/-! ### what the program's defs are worth -/
def isNum (lo : Int) (hi : Option Int) : D → Bool
  | .int i => decide (lo ≤ i) && (match hi with | none => true | some h => decide (i ≤ h))
  | _ => false
@[simp] theorem isNum_n {lo i : Int} : isNum lo none (.int i) = decide (lo ≤ i) := by simp [isNum]
@[simp] theorem isNum_s {lo hi i : Int} : isNum lo (some hi) (.int i) = (decide (lo ≤ i) && decide (i ≤ hi)) := rfl
theorem vw_ref_cases {S : IS} {a : Addr} : (∃ ds, vw S (.ref a) = .lst ds) ∨ (∃ k, vw S (.ref a) = .dct k) ∨ vw S (.ref a) = .ref a := by
  unfold vw
  cases h : S a with
  | none => simp [h]
  | some i => cases i <;> simp [h]
theorem tn_cases {S : IS} {x : D} {tn : String} (h : tnD (vw S x) = some tn) : (∃ i, x = .int i) ∨ (∃ b, x = .bl b) ∨ (tn ≠ "int" ∧ tn ≠ "bool" ∧ ∀ lo hi, isNum lo hi (vw S x) = false) := by
  cases x with
  | int i => exact .inl ⟨i, rfl⟩
  | bl b => exact .inr (.inl ⟨b, rfl⟩)
  | ref a =>
    rcases vw_ref_cases (S := S) (a := a) with ⟨ds, e⟩ | ⟨k, e⟩ | e
    · rw [e] at h ⊢
      simp at h
      subst h
      exact .inr (.inr ⟨by decide, by decide, fun _ _ => rfl⟩)
    · rw [e] at h ⊢
      simp at h
      subst h
      exact .inr (.inr ⟨by decide, by decide, fun _ _ => rfl⟩)
    · rw [e] at h
      cases h
  | _ => first | (cases h; done) | (simp at h; subst h; exact .inr (.inr ⟨by decide, by decide, fun _ _ => rfl⟩))
def sp_is_number : SpD := fun ds S Q _ => match ds with
  | [x, .int lo, .non] => ∃ tn, tnD (vw S x) = some tn ∧ Q (.bl (isNum lo none (vw S x))) S
  | [x, .int lo, .int hi] => ∃ tn, tnD (vw S x) = some tn ∧ Q (.bl (isNum lo (some hi) (vw S x))) S
  | _ => False
section
variable {S : IS} {Q : DK} {E : XKd} {x : D} {lo hi : Int}
@[simp] theorem s_num0 : sp_is_number [x, .int lo, .non] S Q E ↔ ∃ tn, tnD (vw S x) = some tn ∧ Q (.bl (isNum lo none (vw S x))) S := Iff.rfl
@[simp] theorem s_num1 : sp_is_number [x, .int lo, .int hi] S Q E ↔ ∃ tn, tnD (vw S x) = some tn ∧ Q (.bl (isNum lo (some hi) (vw S x))) S := Iff.rfl
def sp_is_amount : SpD := fun ds S Q _ => match ds with
  | [x] => ∃ tn, tnD (vw S x) = some tn ∧ Q (.bl (isNum 1 (some 1000000000) (vw S x))) S
  | _ => False
@[simp] theorem s_amount : sp_is_amount [x] S Q E ↔ ∃ tn, tnD (vw S x) = some tn ∧ Q (.bl (isNum 1 (some 1000000000) (vw S x))) S := Iff.rfl
def sp_is_time : SpD := fun ds S Q _ => match ds with
  | [x] => ∃ tn, tnD (vw S x) = some tn ∧ Q (.bl (isNum 0 none (vw S x))) S
  | _ => False
@[simp] theorem s_time : sp_is_time [x] S Q E ↔ ∃ tn, tnD (vw S x) = some tn ∧ Q (.bl (isNum 0 none (vw S x))) S := Iff.rfl
end

theorem okS_state : okS "state" = true := by decide +kernel

structure Pr where
  mark : Int
  by_ : Int
  amount : Int
  lock : Int
  until_ : Int
def Pr.d (p : Pr) : D := .tup [.int p.mark, .int p.by_, .int p.amount, .int p.lock, .int p.until_]
theorem prs_inj : ∀ {ps qs : List Pr}, ps.map Pr.d = qs.map Pr.d → ps = qs
  | [], [], _ => rfl
  | [], _ :: _, h => by cases h
  | _ :: _, [], h => by cases h
  | ⟨a, b, c, d, e⟩ :: ps, ⟨a', b', c', d', e'⟩ :: qs, h => by
    have h1 := List.cons.inj h
    have h2 := prs_inj h1.2
    simp [Pr.d] at h1
    obtain ⟨⟨rfl, rfl, rfl, rfl, rfl⟩, _⟩ := h1
    rw [h2]
structure Sta where
  pool : Int
  turn : Int
  x : Int
  y : Int
  ps : List Pr
def Sta.d (s : Sta) : D := .tup [.str "state", .int s.pool, .int s.turn, .int s.x, .int s.y, .tup (s.ps.map Pr.d)]
def isPr (p : Pr) : Bool := isNum 1 none (.int p.mark) && isNum 0 (some 1) (.int p.by_) && isNum 1 (some 1000000000) (.int p.amount) && isNum 0 (some 1000000000000000000000000000000) (.int p.lock) && isNum 0 none (.int p.until_)
def isPrD : D → Bool
  | .tup [.int a, .int b, .int c, .int d, .int e] => isPr ⟨a, b, c, d, e⟩
  | _ => false
@[simp] theorem isPrD_d {p : Pr} : isPrD p.d = isPr p := rfl
def rising : List Pr → Bool
  | p :: q :: r => decide (p.mark < q.mark) && rising (q :: r)
  | _ => true
def risD : D → Bool
  | .tup [.tup (.int a :: _), .tup (.int b :: _)] => decide (a < b)
  | _ => false
theorem cutD_tail (xs : List D) : cutD xs (some 1) none = xs.drop 1 := by
  unfold cutD HT.sIx
  cases xs with
  | nil => rfl
  | cons x xs => simp
theorem zip_prs : ∀ {ps : List Pr} {d : D}, d ∈ zipD (ps.map Pr.d) ((ps.map Pr.d).drop 1) → ∃ p q : Pr, d = .tup [p.d, q.d]
  | [], _, h => by cases h
  | [_], _, h => by cases h
  | p :: q :: r, d, h => by
    have h' : d ∈ D.tup [p.d, q.d] :: zipD ((q :: r).map Pr.d) (((q :: r).map Pr.d).drop 1) := h
    rcases List.mem_cons.mp h' with e | e
    · exact ⟨p, q, e⟩
    · exact zip_prs e
theorem ris_zip : ∀ ps : List Pr, (zipD (ps.map Pr.d) ((ps.map Pr.d).drop 1)).all risD = rising ps
  | [] => rfl
  | [_] => rfl
  | p :: q :: r => by
    have e : zipD ((p :: q :: r).map Pr.d) (((p :: q :: r).map Pr.d).drop 1) = D.tup [p.d, q.d] :: zipD ((q :: r).map Pr.d) (((q :: r).map Pr.d).drop 1) := rfl
    rw [e, List.all_cons, ris_zip (q :: r)]
    rfl
def arePr (ps : List Pr) : Bool := decide (ps.length ≤ 4) && ps.all isPr && rising ps
def isSt (s : Sta) : Bool := isNum 1 none (.int s.pool) && isNum 0 none (.int s.turn) && arePr s.ps && isNum 0 (some 10000000000) (.int s.x) && isNum 0 (some 10000000000) (.int s.y)
section
variable {S : IS} {Q : DK} {E : XKd} {a b c d e : Int} {ps : List Pr}
def sp_is_promise : SpD := fun ds S Q _ => match ds with
  | [.tup [.int a, .int b, .int c, .int d, .int e]] => Q (.bl (isPr ⟨a, b, c, d, e⟩)) S
  | _ => False
@[simp] theorem s_promise : sp_is_promise [.tup [.int a, .int b, .int c, .int d, .int e]] S Q E ↔ Q (.bl (isPr ⟨a, b, c, d, e⟩)) S := Iff.rfl
def sp_are_promises : SpD := fun ds S Q _ => ∃ ps, ds = [.tup (ps.map Pr.d)] ∧ ps.length ≤ 1000000 ∧ Q (.bl (arePr ps)) S
@[simp] theorem s_are : sp_are_promises [.tup (ps.map Pr.d)] S Q E ↔ ps.length ≤ 1000000 ∧ Q (.bl (arePr ps)) S := by
  constructor
  · rintro ⟨qs, h, q⟩
    simp at h
    rw [prs_inj h]; exact q
  · exact fun q => ⟨ps, rfl, q⟩
def sp_is_state : SpD := fun ds S Q _ => ∃ s : Sta, ds = [s.d] ∧ s.ps.length ≤ 1000000 ∧ Q (.bl (isSt s)) S
theorem sta_inj : ∀ {s t : Sta}, s.d = t.d → s = t
  | ⟨a, b, c, d, e⟩, ⟨a', b', c', d', e'⟩, h => by
    simp [Sta.d] at h
    obtain ⟨rfl, rfl, rfl, rfl, h⟩ := h
    rw [prs_inj (ps := e) (qs := e') (by simpa using h)]
@[simp] theorem s_state {s : Sta} : sp_is_state [s.d] S Q E ↔ s.ps.length ≤ 1000000 ∧ Q (.bl (isSt s)) S := by
  constructor
  · rintro ⟨t, h, q⟩
    rw [sta_inj (List.cons.inj h).1]; exact q
  · exact fun q => ⟨s, rfl, q⟩
/-- states alone -/
def sp_need_state : SpD := fun ds S Q _ => ∃ s : Sta, ds = [s.d] ∧ s.ps.length ≤ 1000000 ∧ isSt s = true ∧ Q .non S
@[simp] theorem s_need {s : Sta} : sp_need_state [s.d] S Q E ↔ s.ps.length ≤ 1000000 ∧ isSt s = true ∧ Q .non S := by
  constructor
  · rintro ⟨t, h, q⟩
    rw [sta_inj (List.cons.inj h).1]; exact q
  · exact fun q => ⟨s, rfl, q⟩
end

/-! ### texts -/
def ltrs : Str := "abcdefghijklmnopqrstuvwxyz"
def isLtr (c : Nat) : Bool := decide (c ∈ ltrs.cps.toList)
def isKey (x : Str) : Bool := decide (1 ≤ x.length) && decide (x.length ≤ 20) && x.cps.toList.all isLtr
section
variable {S : IS} {Q : DK} {E : XKd} {x y : Str} {f : Addr}
def sp_is_key : SpD := fun ds S Q _ => match ds with
  | [.str x] => x.length ≤ 1000000 ∧ Q (.bl (isKey x)) S
  | _ => False
@[simp] theorem s_key : sp_is_key [.str x] S Q E ↔ x.length ≤ 1000000 ∧ Q (.bl (isKey x)) S := Iff.rfl
def sp_is_secret : SpD := fun ds S Q _ => match ds with
  | [.str x] => x.length ≤ 1000000 ∧ Q (.bl (isKey x)) S
  | _ => False
@[simp] theorem s_secret : sp_is_secret [.str x] S Q E ↔ x.length ≤ 1000000 ∧ Q (.bl (isKey x)) S := Iff.rfl
/-- secrets alone -/
def sp_need_secret : SpD := fun ds S Q _ => match ds with
  | [.str x] => isKey x = true ∧ Q .non S
  | _ => False
@[simp] theorem s_needsec : sp_need_secret [.str x] S Q E ↔ isKey x = true ∧ Q .non S := Iff.rfl
theorem key_len (h : isKey x = true) : 1 ≤ x.length ∧ x.length ≤ 20 := by
  unfold isKey at h
  simp only [Bool.and_eq_true, decide_eq_true_eq] at h
  exact h.1
end
def keyR : D → D
  | .str x => match x.cps.toList with
    | [c] => .bl (isLtr c)
    | _ => .non
  | d => d
/-! ### digests -/
def st_asked : Stmt := (defBody s__law_digest).getD 1 (.Pass ⟨0, 0, 0, 0⟩)
def q_asked : Str := "_law_digest" ++ ".<locals>." ++ "_law_asked"
def KdA (F : NF) : Prop := ∃ cl c, F = NF.of st_asked "_law_asked" q_asked cl c
abbrev frA : List Str := ["_law_met", "_law_step_here"]
def sp_asked : SpC := fun us ds S Q => match us, ds with
  | [.ref d, .int step], [.str t] => ∃ kds, S d = some (.dct kds) ∧ kds.length < 1000 ∧ 0 < step ∧ step < 4000000000 ∧ (∀ v, kget kds (.inr t) = some v → Q v S) ∧
      (kget kds (.inr t) = none → Q (.int (step * (kds.length + 1))) (updS S d (.dct (kput kds (.inr t) (.int (step * (kds.length + 1)))))))
  | _, _ => False
/-- the digest f stands: its dict at d holds kds -/
structure Dig (S : IS) (f : Addr) (F : NF) (d : Addr) (step : Int) (kds : List (Key × D)) : Prop where
  clo : CloAt S f F frA [.ref d, .int step]
  kd : KdA F
  at_ : S d = some (.dct kds)
  low : 0 < step
  high : step < 4000000000
theorem Dig.out {S : IS} {f : Addr} {F : NF} {d : Addr} {step : Int} {kds : List (Key × D)} (D : Dig S f F d step kds) : d ∉ csOf F := fun h => by
  obtain ⟨u, e⟩ := D.clo.cells d h
  rw [D.at_] at e; cases e
theorem show_hide {cs : List Addr} {S : IS} : showS cs S (hideS cs S) = S := by
  funext b
  by_cases h : b ∈ cs
  · rw [showS_in h]
  · rw [showS_out h, hideS_out h]
theorem show_upd {cs : List Addr} {S : IS} {a : Addr} {o : IO} (h : a ∉ cs) : showS cs S (updS (hideS cs S) a o) = updS S a o := by
  funext b
  by_cases hb : b ∈ cs
  · rw [showS_in hb, updS_ne (fun z => h (by rw [← z]; exact hb))]
  · rw [showS_out hb]
    by_cases e : b = a
    · subst e; rw [updS_same, updS_same]
    · rw [updS_ne e, updS_ne e, hideS_out hb]
/-- a call of the digest -/
theorem dig_in {S : IS} {f : Addr} {F : NF} {d : Addr} {step : Int} {kds : List (Key × D)} {t : Str} {Q : DK} (D : Dig S f F d step kds) (hl : kds.length < 1000) (h1 : ∀ v, kget kds (.inr t) = some v → Q v S)
    (h2 : kget kds (.inr t) = none → Q (.int (step * (kds.length + 1))) (updS S d (.dct (kput kds (.inr t) (.int (step * (kds.length + 1))))))) :
    CloAt S f F frA [.ref d, .int step] ∧ sp_asked [.ref d, .int step] [.str t] (hideS (csOf F) S) (fun v S' => Q v (showS (csOf F) S S')) := by
  refine ⟨D.clo, kds, by rw [hideS_out D.out]; exact D.at_, hl, D.low, D.high, fun v e => ?_, fun e => ?_⟩
  · show Q v _
    rw [show_hide]
    exact h1 v e
  · show Q _ _
    rw [show_upd D.out]
    exact h2 e
theorem nok_asked {P : Program} {w : World} {K : PySem.W.Frag} {mg : Str → Option Value} {base : Heap} (T : Txt K mg w) : ∀ f F us, KdA F → NOk P w K mg base (L2.CX P w) 1 f F ["_law_text"] frA (NLSp K us sp_asked) := by
  rintro f F us ⟨cl, c, rfl⟩
  by_cases hu : ∃ d step, us = [.ref d, .int step]
  · obtain ⟨d, step, rfl⟩ := hu
    refine' nok_d (N := ["_law_text", "_law_met", "_law_step_here"]) (ud := [.ref d, .int step]) (show NScope ["_law_text", "_law_met", "_law_step_here"] ["_law_text"] frA (C8.fnScope st_asked) from nscope_by (by decide +kernel)) (fun doc pm ctv us hl => match us, hl with | [_], _ => rfl) (fun ds S Q h => ?a1) (fun F => .cons (.ref d) (.cons (.int step) .nil)) (fun X A outer s H E hr eX => ?a2) (fun ds S Q h => ?a3)
    case a1 =>
      match ds, h with
      | [.str _], _ => rfl
    case a2 =>
      subst eX
      exact (dss_one (ds_ret (x_setd (xv 1) (xv 0) (dx_op o_mul (xv 2) (dx_op o_add (x_callB c_len T.n_len bt_len (da_cons (xv 1) da_nil)) dx_int)))))
    case a3 =>
      match ds, h with
      | [.str t], h =>
        obtain ⟨kds, e1, hl, h1, h2, q1, q2⟩ := h
        have hv : vw S (.ref d) = .dct kds := vw_refd e1
        refine ⟨_, rfl, d, kds, rfl, e1, _, rfl, _, rfl, _, rfl, _, _, rfl, by rw [hv]; rfl, ?_⟩
        refine ⟨.inl ⟨by omega, by omega⟩, kds, _, e1, rfl, by omega, fun v e => q1 v e, fun e => q2 e⟩
  · refine nok_never fun ds S Q h => ?_
    unfold sp_asked at h
    split at h
    · exact hu ⟨_, _, rfl⟩
    · exact h

def sp_lock_of : SpD := fun ds S Q _ => ∃ x f F d step kds, ds = [.str x, .ref f] ∧ isKey x = true ∧ Dig S f F d step kds ∧ kds.length < 1000 ∧ (∀ v, kget kds (.inr ("lock " ++ x)) = some v → Q v S) ∧
  (kget kds (.inr ("lock " ++ x)) = none → Q (.int (step * (kds.length + 1))) (updS S d (.dct (kput kds (.inr ("lock " ++ x)) (.int (step * (kds.length + 1)))))))
theorem len_lock : (("lock " : Str)).length = 5 := by decide +kernel
@[simp] theorem ln_state : (Str.ofString "state").length = 5 := by decide +kernel
@[simp] theorem eq_state_pay : ((Str.ofString "state") == (Str.ofString "pay")) = false := by decide +kernel
@[simp] theorem ne_state_pay : ((Str.ofString "state") = (Str.ofString "pay")) = False := by simp only [eq_iff_iff, iff_false]; decide +kernel
@[simp] theorem eq_state_give : ((Str.ofString "state") == (Str.ofString "give")) = false := by decide +kernel
@[simp] theorem ne_state_give : ((Str.ofString "state") = (Str.ofString "give")) = False := by simp only [eq_iff_iff, iff_false]; decide +kernel
@[simp] theorem eq_state_claim : ((Str.ofString "state") == (Str.ofString "claim")) = false := by decide +kernel
@[simp] theorem ne_state_claim : ((Str.ofString "state") = (Str.ofString "claim")) = False := by simp only [eq_iff_iff, iff_false]; decide +kernel
@[simp] theorem eq_state_back : ((Str.ofString "state") == (Str.ofString "back")) = false := by decide +kernel
@[simp] theorem ne_state_back : ((Str.ofString "state") = (Str.ofString "back")) = False := by simp only [eq_iff_iff, iff_false]; decide +kernel
@[simp] theorem eq_state_late : ((Str.ofString "state") == (Str.ofString "late")) = false := by decide +kernel
@[simp] theorem ne_state_late : ((Str.ofString "state") = (Str.ofString "late")) = False := by simp only [eq_iff_iff, iff_false]; decide +kernel
@[simp] theorem eq_state_pass : ((Str.ofString "state") == (Str.ofString "pass")) = false := by decide +kernel
@[simp] theorem ne_state_pass : ((Str.ofString "state") = (Str.ofString "pass")) = False := by simp only [eq_iff_iff, iff_false]; decide +kernel
@[simp] theorem okS_pay : okS (Str.ofString "pay") = true := by decide +kernel
@[simp] theorem ln_pay : (Str.ofString "pay").length = 3 := by decide +kernel
@[simp] theorem eq_pay_state : ((Str.ofString "pay") == (Str.ofString "state")) = false := by decide +kernel
@[simp] theorem ne_pay_state : ((Str.ofString "pay") = (Str.ofString "state")) = False := by simp only [eq_iff_iff, iff_false]; decide +kernel
@[simp] theorem eq_pay_give : ((Str.ofString "pay") == (Str.ofString "give")) = false := by decide +kernel
@[simp] theorem ne_pay_give : ((Str.ofString "pay") = (Str.ofString "give")) = False := by simp only [eq_iff_iff, iff_false]; decide +kernel
@[simp] theorem eq_pay_claim : ((Str.ofString "pay") == (Str.ofString "claim")) = false := by decide +kernel
@[simp] theorem ne_pay_claim : ((Str.ofString "pay") = (Str.ofString "claim")) = False := by simp only [eq_iff_iff, iff_false]; decide +kernel
@[simp] theorem eq_pay_back : ((Str.ofString "pay") == (Str.ofString "back")) = false := by decide +kernel
@[simp] theorem ne_pay_back : ((Str.ofString "pay") = (Str.ofString "back")) = False := by simp only [eq_iff_iff, iff_false]; decide +kernel
@[simp] theorem eq_pay_late : ((Str.ofString "pay") == (Str.ofString "late")) = false := by decide +kernel
@[simp] theorem ne_pay_late : ((Str.ofString "pay") = (Str.ofString "late")) = False := by simp only [eq_iff_iff, iff_false]; decide +kernel
@[simp] theorem eq_pay_pass : ((Str.ofString "pay") == (Str.ofString "pass")) = false := by decide +kernel
@[simp] theorem ne_pay_pass : ((Str.ofString "pay") = (Str.ofString "pass")) = False := by simp only [eq_iff_iff, iff_false]; decide +kernel
@[simp] theorem okS_give : okS (Str.ofString "give") = true := by decide +kernel
@[simp] theorem ln_give : (Str.ofString "give").length = 4 := by decide +kernel
@[simp] theorem eq_give_state : ((Str.ofString "give") == (Str.ofString "state")) = false := by decide +kernel
@[simp] theorem ne_give_state : ((Str.ofString "give") = (Str.ofString "state")) = False := by simp only [eq_iff_iff, iff_false]; decide +kernel
@[simp] theorem eq_give_pay : ((Str.ofString "give") == (Str.ofString "pay")) = false := by decide +kernel
@[simp] theorem ne_give_pay : ((Str.ofString "give") = (Str.ofString "pay")) = False := by simp only [eq_iff_iff, iff_false]; decide +kernel
@[simp] theorem eq_give_claim : ((Str.ofString "give") == (Str.ofString "claim")) = false := by decide +kernel
@[simp] theorem ne_give_claim : ((Str.ofString "give") = (Str.ofString "claim")) = False := by simp only [eq_iff_iff, iff_false]; decide +kernel
@[simp] theorem eq_give_back : ((Str.ofString "give") == (Str.ofString "back")) = false := by decide +kernel
@[simp] theorem ne_give_back : ((Str.ofString "give") = (Str.ofString "back")) = False := by simp only [eq_iff_iff, iff_false]; decide +kernel
@[simp] theorem eq_give_late : ((Str.ofString "give") == (Str.ofString "late")) = false := by decide +kernel
@[simp] theorem ne_give_late : ((Str.ofString "give") = (Str.ofString "late")) = False := by simp only [eq_iff_iff, iff_false]; decide +kernel
@[simp] theorem eq_give_pass : ((Str.ofString "give") == (Str.ofString "pass")) = false := by decide +kernel
@[simp] theorem ne_give_pass : ((Str.ofString "give") = (Str.ofString "pass")) = False := by simp only [eq_iff_iff, iff_false]; decide +kernel
@[simp] theorem okS_claim : okS (Str.ofString "claim") = true := by decide +kernel
@[simp] theorem ln_claim : (Str.ofString "claim").length = 5 := by decide +kernel
@[simp] theorem eq_claim_state : ((Str.ofString "claim") == (Str.ofString "state")) = false := by decide +kernel
@[simp] theorem ne_claim_state : ((Str.ofString "claim") = (Str.ofString "state")) = False := by simp only [eq_iff_iff, iff_false]; decide +kernel
@[simp] theorem eq_claim_pay : ((Str.ofString "claim") == (Str.ofString "pay")) = false := by decide +kernel
@[simp] theorem ne_claim_pay : ((Str.ofString "claim") = (Str.ofString "pay")) = False := by simp only [eq_iff_iff, iff_false]; decide +kernel
@[simp] theorem eq_claim_give : ((Str.ofString "claim") == (Str.ofString "give")) = false := by decide +kernel
@[simp] theorem ne_claim_give : ((Str.ofString "claim") = (Str.ofString "give")) = False := by simp only [eq_iff_iff, iff_false]; decide +kernel
@[simp] theorem eq_claim_back : ((Str.ofString "claim") == (Str.ofString "back")) = false := by decide +kernel
@[simp] theorem ne_claim_back : ((Str.ofString "claim") = (Str.ofString "back")) = False := by simp only [eq_iff_iff, iff_false]; decide +kernel
@[simp] theorem eq_claim_late : ((Str.ofString "claim") == (Str.ofString "late")) = false := by decide +kernel
@[simp] theorem ne_claim_late : ((Str.ofString "claim") = (Str.ofString "late")) = False := by simp only [eq_iff_iff, iff_false]; decide +kernel
@[simp] theorem eq_claim_pass : ((Str.ofString "claim") == (Str.ofString "pass")) = false := by decide +kernel
@[simp] theorem ne_claim_pass : ((Str.ofString "claim") = (Str.ofString "pass")) = False := by simp only [eq_iff_iff, iff_false]; decide +kernel
@[simp] theorem okS_back : okS (Str.ofString "back") = true := by decide +kernel
@[simp] theorem ln_back : (Str.ofString "back").length = 4 := by decide +kernel
@[simp] theorem eq_back_state : ((Str.ofString "back") == (Str.ofString "state")) = false := by decide +kernel
@[simp] theorem ne_back_state : ((Str.ofString "back") = (Str.ofString "state")) = False := by simp only [eq_iff_iff, iff_false]; decide +kernel
@[simp] theorem eq_back_pay : ((Str.ofString "back") == (Str.ofString "pay")) = false := by decide +kernel
@[simp] theorem ne_back_pay : ((Str.ofString "back") = (Str.ofString "pay")) = False := by simp only [eq_iff_iff, iff_false]; decide +kernel
@[simp] theorem eq_back_give : ((Str.ofString "back") == (Str.ofString "give")) = false := by decide +kernel
@[simp] theorem ne_back_give : ((Str.ofString "back") = (Str.ofString "give")) = False := by simp only [eq_iff_iff, iff_false]; decide +kernel
@[simp] theorem eq_back_claim : ((Str.ofString "back") == (Str.ofString "claim")) = false := by decide +kernel
@[simp] theorem ne_back_claim : ((Str.ofString "back") = (Str.ofString "claim")) = False := by simp only [eq_iff_iff, iff_false]; decide +kernel
@[simp] theorem eq_back_late : ((Str.ofString "back") == (Str.ofString "late")) = false := by decide +kernel
@[simp] theorem ne_back_late : ((Str.ofString "back") = (Str.ofString "late")) = False := by simp only [eq_iff_iff, iff_false]; decide +kernel
@[simp] theorem eq_back_pass : ((Str.ofString "back") == (Str.ofString "pass")) = false := by decide +kernel
@[simp] theorem ne_back_pass : ((Str.ofString "back") = (Str.ofString "pass")) = False := by simp only [eq_iff_iff, iff_false]; decide +kernel
@[simp] theorem okS_late : okS (Str.ofString "late") = true := by decide +kernel
@[simp] theorem ln_late : (Str.ofString "late").length = 4 := by decide +kernel
@[simp] theorem eq_late_state : ((Str.ofString "late") == (Str.ofString "state")) = false := by decide +kernel
@[simp] theorem ne_late_state : ((Str.ofString "late") = (Str.ofString "state")) = False := by simp only [eq_iff_iff, iff_false]; decide +kernel
@[simp] theorem eq_late_pay : ((Str.ofString "late") == (Str.ofString "pay")) = false := by decide +kernel
@[simp] theorem ne_late_pay : ((Str.ofString "late") = (Str.ofString "pay")) = False := by simp only [eq_iff_iff, iff_false]; decide +kernel
@[simp] theorem eq_late_give : ((Str.ofString "late") == (Str.ofString "give")) = false := by decide +kernel
@[simp] theorem ne_late_give : ((Str.ofString "late") = (Str.ofString "give")) = False := by simp only [eq_iff_iff, iff_false]; decide +kernel
@[simp] theorem eq_late_claim : ((Str.ofString "late") == (Str.ofString "claim")) = false := by decide +kernel
@[simp] theorem ne_late_claim : ((Str.ofString "late") = (Str.ofString "claim")) = False := by simp only [eq_iff_iff, iff_false]; decide +kernel
@[simp] theorem eq_late_back : ((Str.ofString "late") == (Str.ofString "back")) = false := by decide +kernel
@[simp] theorem ne_late_back : ((Str.ofString "late") = (Str.ofString "back")) = False := by simp only [eq_iff_iff, iff_false]; decide +kernel
@[simp] theorem eq_late_pass : ((Str.ofString "late") == (Str.ofString "pass")) = false := by decide +kernel
@[simp] theorem ne_late_pass : ((Str.ofString "late") = (Str.ofString "pass")) = False := by simp only [eq_iff_iff, iff_false]; decide +kernel
@[simp] theorem okS_pass : okS (Str.ofString "pass") = true := by decide +kernel
@[simp] theorem ln_pass : (Str.ofString "pass").length = 4 := by decide +kernel
@[simp] theorem eq_pass_state : ((Str.ofString "pass") == (Str.ofString "state")) = false := by decide +kernel
@[simp] theorem ne_pass_state : ((Str.ofString "pass") = (Str.ofString "state")) = False := by simp only [eq_iff_iff, iff_false]; decide +kernel
@[simp] theorem eq_pass_pay : ((Str.ofString "pass") == (Str.ofString "pay")) = false := by decide +kernel
@[simp] theorem ne_pass_pay : ((Str.ofString "pass") = (Str.ofString "pay")) = False := by simp only [eq_iff_iff, iff_false]; decide +kernel
@[simp] theorem eq_pass_give : ((Str.ofString "pass") == (Str.ofString "give")) = false := by decide +kernel
@[simp] theorem ne_pass_give : ((Str.ofString "pass") = (Str.ofString "give")) = False := by simp only [eq_iff_iff, iff_false]; decide +kernel
@[simp] theorem eq_pass_claim : ((Str.ofString "pass") == (Str.ofString "claim")) = false := by decide +kernel
@[simp] theorem ne_pass_claim : ((Str.ofString "pass") = (Str.ofString "claim")) = False := by simp only [eq_iff_iff, iff_false]; decide +kernel
@[simp] theorem eq_pass_back : ((Str.ofString "pass") == (Str.ofString "back")) = false := by decide +kernel
@[simp] theorem ne_pass_back : ((Str.ofString "pass") = (Str.ofString "back")) = False := by simp only [eq_iff_iff, iff_false]; decide +kernel
@[simp] theorem eq_pass_late : ((Str.ofString "pass") == (Str.ofString "late")) = false := by decide +kernel
@[simp] theorem ne_pass_late : ((Str.ofString "pass") = (Str.ofString "late")) = False := by simp only [eq_iff_iff, iff_false]; decide +kernel
@[simp] theorem lk_pay : List.lookup (Str.ofString "pay") [((Str.ofString "pay"), (2 : Int)), ((Str.ofString "give"), (5 : Int)), ((Str.ofString "claim"), (3 : Int)), ((Str.ofString "back"), (2 : Int)), ((Str.ofString "late"), (2 : Int)), ((Str.ofString "pass"), (1 : Int))] = some 2 := by decide +kernel
@[simp] theorem lk_give : List.lookup (Str.ofString "give") [((Str.ofString "pay"), (2 : Int)), ((Str.ofString "give"), (5 : Int)), ((Str.ofString "claim"), (3 : Int)), ((Str.ofString "back"), (2 : Int)), ((Str.ofString "late"), (2 : Int)), ((Str.ofString "pass"), (1 : Int))] = some 5 := by decide +kernel
@[simp] theorem lk_claim : List.lookup (Str.ofString "claim") [((Str.ofString "pay"), (2 : Int)), ((Str.ofString "give"), (5 : Int)), ((Str.ofString "claim"), (3 : Int)), ((Str.ofString "back"), (2 : Int)), ((Str.ofString "late"), (2 : Int)), ((Str.ofString "pass"), (1 : Int))] = some 3 := by decide +kernel
@[simp] theorem lk_back : List.lookup (Str.ofString "back") [((Str.ofString "pay"), (2 : Int)), ((Str.ofString "give"), (5 : Int)), ((Str.ofString "claim"), (3 : Int)), ((Str.ofString "back"), (2 : Int)), ((Str.ofString "late"), (2 : Int)), ((Str.ofString "pass"), (1 : Int))] = some 2 := by decide +kernel
@[simp] theorem lk_late : List.lookup (Str.ofString "late") [((Str.ofString "pay"), (2 : Int)), ((Str.ofString "give"), (5 : Int)), ((Str.ofString "claim"), (3 : Int)), ((Str.ofString "back"), (2 : Int)), ((Str.ofString "late"), (2 : Int)), ((Str.ofString "pass"), (1 : Int))] = some 2 := by decide +kernel
@[simp] theorem lk_pass : List.lookup (Str.ofString "pass") [((Str.ofString "pay"), (2 : Int)), ((Str.ofString "give"), (5 : Int)), ((Str.ofString "claim"), (3 : Int)), ((Str.ofString "back"), (2 : Int)), ((Str.ofString "late"), (2 : Int)), ((Str.ofString "pass"), (1 : Int))] = some 1 := by decide +kernel

/-! ### moves -/
inductive Mv where
  | pay (n : Int) | give (mark amount lock until_ : Int) | claim (mark : Int) (x : Str) | back (mark : Int) | late (mark : Int) | pass
def Mv.d : Mv → D
  | .pay n => .tup [.str "pay", .int n]
  | .give a b c e => .tup [.str "give", .int a, .int b, .int c, .int e]
  | .claim a x => .tup [.str "claim", .int a, .str x]
  | .back a => .tup [.str "back", .int a]
  | .late a => .tup [.str "late", .int a]
  | .pass => .tup [.str "pass"]
def Mv.fit : Mv → Prop
  | .claim _ x => okS x = true ∧ x.length ≤ 1000000
  | _ => True
def isMv : Mv → Bool
  | .pay n => isNum 1 (some 1000000000) (.int n)
  | .give a b c e => isPr ⟨a, 0, b, c, e⟩
  | .claim a x => isNum 1 none (.int a) && isKey x
  | .back a => isNum 1 none (.int a)
  | .late a => isNum 1 none (.int a)
  | .pass => true
def sp_is_move : SpD := fun ds S Q _ => ∃ m : Mv, ds = [m.d] ∧ m.fit ∧ Q (.bl (isMv m)) S
theorem c_is_move {S : IS} {Q : DK} {E : XKd} {m : Mv} (h1 : m.fit) (h2 : Q (.bl (isMv m)) S) : sp_is_move [m.d] S Q E := ⟨m, rfl, h1, h2⟩
def sp_mover : SpD := fun ds S Q _ => ∃ s : Sta, ds = [s.d] ∧ s.ps.length ≤ 1000000 ∧ isSt s = true ∧ Q (.int (s.turn % 2)) S
def promiseOf (ps : List Pr) (m : Int) : Option Pr := ps.find? fun p => decide (p.mark = m)
def optPr : Option Pr → D
  | none => .non
  | some p => p.d
def sp_promise_of : SpD := fun ds S Q _ => ∃ (s : Sta) (m : Int), ds = [s.d, .int m] ∧ s.ps.length ≤ 1000000 ∧ Q (optPr (promiseOf s.ps m)) S
def withSums (s : Sta) (party more : Int) (ps : List Pr) : Sta := ⟨s.pool, s.turn + 1, if party = 0 then s.x + more else s.x, if party = 0 then s.y else s.y + more, ps⟩
def sp_with_sums : SpD := fun ds S Q _ => ∃ (s : Sta) (party more : Int) (ps : List Pr), ds = [s.d, .int party, .int more, .tup (ps.map Pr.d)] ∧ (party = 0 ∨ party = 1) ∧ Q ((withSums s party more ps).d) S
def Sta.had (s : Sta) (party : Int) : Int := if party = 0 then s.x else s.y
def afterGive (s : Sta) (party a b c e : Int) : Option Sta := if (s.ps.any fun p => decide (a ≤ p.mark)) = true ∨ s.had party < b then none else some (withSums s party (-b) (s.ps ++ [⟨a, party, b, c, e⟩]))
def optSta : Option Sta → D
  | none => .non
  | some s => s.d
def sp_after_give : SpD := fun ds S Q _ => ∃ (s : Sta) (party a b c e : Int), ds = [s.d, .int party, .lst [.int a, .int b, .int c, .int e]] ∧ s.ps.length ≤ 1000 ∧ (party = 0 ∨ party = 1) ∧ Q (optSta (afterGive s party a b c e)) S

def geD (a : Int) : D → Bool
  | .tup (.int b :: _) => decide (a ≤ b)
  | _ => false
theorem any_ge (a : Int) (ps : List Pr) : (ps.map Pr.d).any (geD a) = ps.any fun p => decide (a ≤ p.mark) := by
  rw [List.any_map]; rfl
theorem map_snoc (ps : List Pr) (a b c d e : Int) : ps.map Pr.d ++ [D.tup [.int a, .int b, .int c, .int d, .int e]] = (ps ++ [Pr.mk a b c d e]).map Pr.d := by simp [Pr.d]

/-- what a claim's word is worth -/
def LkOk (S : IS) (f : Addr) (lk : Str → Int) : Mv → Prop
  | .claim _ x => isKey x = true ∧ ∃ F d step kds, Dig S f F d step kds ∧ kds.length < 1000 ∧ kget kds (.inr ("lock " ++ x)) = some (.int (lk x))
  | _ => True
def others (ps : List Pr) (m : Int) : List Pr := ps.filter fun p => decide (p.mark ≠ m)
def taken (s : Sta) (m by_ to : Int) (ok : Pr → Bool) : Option Sta := match promiseOf s.ps m with
  | none => none
  | some p => if p.by_ = by_ ∧ ok p = true then some (withSums s to p.amount (others s.ps m)) else none
def afterTaking (s : Sta) (party : Int) (lk : Str → Int) : Mv → Option Sta
  | .claim m x => taken s m (1 - party) party fun p => decide (lk x = p.lock)
  | .back m => taken s m (1 - party) (1 - party) fun _ => true
  | .late m => taken s m party party fun _ => true
  | _ => none
def Mv.takes : Mv → Bool
  | .claim _ _ => true
  | .back _ => true
  | .late _ => true
  | _ => false
def sp_after_taking : SpD := fun ds S Q _ => ∃ (s : Sta) (party : Int) (m : Mv) (f : Addr) (lk : Str → Int), ds = [s.d, .int party, m.d, .ref f] ∧ m.takes = true ∧ s.ps.length ≤ 1000000 ∧ (party = 0 ∨ party = 1) ∧ LkOk S f lk m ∧ Q (optSta (afterTaking s party lk m)) S
def neD (a : Int) : D → Bool
  | .tup (.int b :: _) => !(b == a)
  | _ => false
theorem filter_ne (a : Int) (ps : List Pr) : (ps.map Pr.d).filter (neD a) = (others ps a).map Pr.d := by
  rw [List.filter_map]
  unfold others
  congr 1
  apply List.filter_congr
  intro p _
  by_cases h : p.mark = a <;> simp [neD, Pr.d, h]

def ledTo (s : Sta) (party : Int) (m : Mv) (lk : Str → Int) : Option Sta := match m with
  | .pass => some (withSums s party 0 s.ps)
  | .give a b c e => afterGive s party a b c e
  | .pay n => if s.had party < n then none else some ⟨s.pool, s.turn + 1, if party = 0 then s.x + -n else s.x + n, if party = 0 then s.y + n else s.y + -n, s.ps⟩
  | m => afterTaking s party lk m
def sp_led_to : SpD := fun ds S Q _ => ∃ (s : Sta) (party : Int) (m : Mv) (f : Addr) (lk : Str → Int), ds = [s.d, .int party, m.d, .ref f] ∧ s.ps.length ≤ 1000 ∧ (party = 0 ∨ party = 1) ∧ LkOk S f lk m ∧ Q (optSta (ledTo s party m lk)) S
theorem isSt_len {s : Sta} (h : isSt s = true) : s.ps.length ≤ 4 := by
  unfold isSt arePr at h
  simp only [Bool.and_eq_true, decide_eq_true_eq] at h
  exact h.1.1.2.1.1
theorem others_len (ps : List Pr) (m : Int) : (others ps m).length ≤ ps.length := List.length_filter_le _ _
theorem taken_len {s : Sta} {m b t : Int} {ok : Pr → Bool} {s' : Sta} (h : taken s m b t ok = some s') : s'.ps.length ≤ s.ps.length := by
  unfold taken at h
  split at h
  · cases h
  · split at h
    · cases h; exact others_len _ _
    · cases h
theorem ledTo_len {s : Sta} {party : Int} {m : Mv} {lk : Str → Int} {s' : Sta} (h : ledTo s party m lk = some s') : s'.ps.length ≤ s.ps.length + 1 := by
  cases m with
  | pass => cases h; exact Nat.le_succ _
  | give a b c e =>
    have h : afterGive s party a b c e = some s' := h
    unfold afterGive at h
    split at h
    · cases h
    · cases h; simp [withSums]
  | pay n =>
    simp only [ledTo] at h
    split at h
    · cases h
    · cases h; simp
  | claim a x => exact Nat.le_succ_of_le (taken_len h)
  | back a => exact Nat.le_succ_of_le (taken_len h)
  | late a => exact Nat.le_succ_of_le (taken_len h)
def movedTo (s : Sta) (party : Int) (m : Mv) (lk : Str → Int) : Option Sta := if party = s.turn % 2 ∧ isMv m = true then (ledTo s party m lk).bind fun s' => if isSt s' = true then some s' else none else none
def sp_moved (C : Addr) : SpD := fun ds S Q E => ∃ (s : Sta) (party : Int) (m : Mv) (f : Addr) (lk : Str → Int), ds = [s.d, .int party, m.d, .ref f] ∧ isSt s = true ∧ (party = 0 ∨ party = 1) ∧ m.fit ∧ LkOk S f lk m ∧
  (∀ s', movedTo s party m lk = some s' → Q s'.d S) ∧ (movedTo s party m lk = none → E (.ref C) none S)
theorem ok_is_number {P : Program} {w : World} {K : PySem.W.Frag} {mg : Str → Option Value} {base : Heap} (T : Txt K mg w) : FnD P w K mg base 1 T.a_is_number T.fd_is_number ["thing", "low", "high"] sp_is_number := by
  refine' fn_d T.F_is_number sc_is_number ?len (fun X W cdv A outer s H E hr eX tk po => ?body) ?read
  case body =>
    subst eX
    have hu64 := hr.units
    have hu65 := room65 hr
    have hu1 := room1 hr
    exact (dss_cons (ds_if (PW.pt (dw_or (dt_not (dt_val (x_callB c_isi T.n_isinstance bt_isinstance (da_cons (xv 0) (da_cons (x_ty T.n_int bt_int) da_nil))))) (dw_or (dt_val (x_callB c_isi T.n_isinstance bt_isinstance (da_cons (xv 0) (da_cons (x_ty T.n_bool bt_bool) da_nil)))) (dw_or1 (xt_cmp o_lt (xv 0) (xv 1))))))
  (dss_one (ds_ret dx_bl))
  dss_nil)
  (dss_one (ds_ret (dx_or (x_cmp o_isN (xv 2) dx_non) (dx_one (x_cmp o_le (xv 0) (xv 2)))))))
  case len =>
    intro ds S Q E h
    match ds, h with
    | [_, .int _, .non], _ => rfl
    | [_, .int _, .int _], _ => rfl
  case read =>
    intro ds S Q E h
    match ds, h with
    | [x, .int lo, .non], ⟨tn, ht, q⟩ =>
      rcases tn_cases ht with ⟨i, rfl⟩ | ⟨b, rfl⟩ | ⟨h1, h2, h3⟩
      · by_cases h : i < lo
        · have h' : ¬ lo ≤ i := by omega
          simp [h'] at q
          simp [startD, retE, h, q]
        · have h' : lo ≤ i := by omega
          simp [h'] at q
          simp [startD, retE, h, q]
      · have q' : Q (.bl false) S := q
        simp [startD, retE, q']
      · rw [h3] at q
        simp [startD, retE, ht, h1, h2, q]
    | [x, .int lo, .int hi], ⟨tn, ht, q⟩ =>
      rcases tn_cases ht with ⟨i, rfl⟩ | ⟨b, rfl⟩ | ⟨h1, h2, h3⟩
      · by_cases h : i < lo
        · have h' : ¬ lo ≤ i := by omega
          simp [h'] at q
          simp [startD, retE, h, q]
        · have h' : lo ≤ i := by omega
          simp [h'] at q
          simp [startD, retE, h, q]
      · have q' : Q (.bl false) S := q
        simp [startD, retE, q']
      · rw [h3] at q
        simp [startD, retE, ht, h1, h2, q]
theorem ok_is_amount {P : Program} {w : World} {K : PySem.W.Frag} {mg : Str → Option Value} {base : Heap} (T : Txt K mg w) : FnD P w K mg base 2 T.a_is_amount T.fd_is_amount ["thing"] sp_is_amount := by
  have G_is_number := ok_is_number (P := P) (base := base) T
  refine' fn_d T.F_is_amount sc_is_amount ?len (fun X W cdv A outer s H E hr eX tk po => ?body) ?read
  case body =>
    subst eX
    have hu64 := hr.units
    have hu65 := room65 hr
    have hu1 := room1 hr
    exact (dss_one (ds_ret (dx_call (G_is_number.mono (by decide)) hr tk (by rfl) T.g_is_number T.F_is_number.kp T.b_is_number (da_cons (xv 0) (da_cons dx_int (da_cons (xg_int T.g_MOST T.i_MOST) da_nil))))))
  case len =>
    intro ds S Q E h
    match ds, h with
    | [_], _ => rfl
  case read =>
    intro ds S Q E h
    match ds, h with
    | [x], h => simpa [startD, retE] using h
theorem ok_is_time {P : Program} {w : World} {K : PySem.W.Frag} {mg : Str → Option Value} {base : Heap} (T : Txt K mg w) : FnD P w K mg base 2 T.a_is_time T.fd_is_time ["thing"] sp_is_time := by
  have G_is_number := ok_is_number (P := P) (base := base) T
  refine' fn_d T.F_is_time sc_is_time ?len (fun X W cdv A outer s H E hr eX tk po => ?body) ?read
  case body =>
    subst eX
    have hu64 := hr.units
    have hu65 := room65 hr
    have hu1 := room1 hr
    exact (dss_one (ds_ret (dx_call (G_is_number.mono (by decide)) hr tk (by rfl) T.g_is_number T.F_is_number.kp T.b_is_number (da_cons (xv 0) (da_cons dx_int (da_cons dx_non da_nil))))))
  case len =>
    intro ds S Q E h
    match ds, h with
    | [_], _ => rfl
  case read =>
    intro ds S Q E h
    match ds, h with
    | [x], h => simpa [startD, retE] using h
theorem ok_is_promise {P : Program} {w : World} {K : PySem.W.Frag} {mg : Str → Option Value} {base : Heap} (T : Txt K mg w) : FnD P w K mg base 3 T.a_is_promise T.fd_is_promise ["thing"] sp_is_promise := by
  have G_is_time := ok_is_time (P := P) (base := base) T
  have G_is_number := ok_is_number (P := P) (base := base) T
  have G_is_amount := ok_is_amount (P := P) (base := base) T
  refine' fn_d T.F_is_promise sc_is_promise ?len (fun X W cdv A outer s H E hr eX tk po => ?body) ?read
  case body =>
    subst eX
    have hu64 := hr.units
    have hu65 := room65 hr
    have hu1 := room1 hr
    exact (dss_cons (ds_if (PW.pt (dw_or (dt_not (dt_val (x_callB c_isi T.n_isinstance bt_isinstance (da_cons (xv 0) (da_cons (x_ty T.n_tuple bt_tuple) da_nil))))) (dw_or1 (xt_cmp (o_ne hu64) (x_callB c_len T.n_len bt_len (da_cons (xv 0) da_nil)) dx_int))))
  (dss_one (ds_ret dx_bl))
  dss_nil)
  (dss_cons (ds_asg (xv 0) (dg_tp rfl (dgs_cons (g_nm (j := 1) sc_is_promise.nd) (dgs_cons (g_nm (j := 2) sc_is_promise.nd) (dgs_cons (g_nm (j := 3) sc_is_promise.nd) (dgs_cons (g_nm (j := 4) sc_is_promise.nd) (dgs_cons (g_nm (j := 5) sc_is_promise.nd) dgs_nil)))))))
  (dss_cons (ds_if (PW.pt (dw_or (dt_not (dt_val (dx_call (G_is_number.mono (by decide)) hr tk (by rfl) T.g_is_number T.F_is_number.kp T.b_is_number (da_cons (xv 1) (da_cons dx_int (da_cons dx_non da_nil)))))) (dw_or (dt_not (dt_val (dx_call (G_is_number.mono (by decide)) hr tk (by rfl) T.g_is_number T.F_is_number.kp T.b_is_number (da_cons (xv 2) (da_cons dx_int (da_cons dx_int da_nil)))))) (dw_or1 (dt_not (dt_val (dx_call (G_is_amount.mono (by decide)) hr tk (by rfl) T.g_is_amount T.F_is_amount.kp T.b_is_amount (da_cons (xv 3) da_nil))))))))
  (dss_one (ds_ret dx_bl))
  dss_nil)
  (dss_one (ds_ret (dx_and (dx_call (G_is_number.mono (by decide)) hr tk (by rfl) T.g_is_number T.F_is_number.kp T.b_is_number (da_cons (xv 4) (da_cons dx_int (da_cons (xg_int T.g_MOST_LOCK T.i_MOST_LOCK) da_nil)))) (dx_one (dx_call (G_is_time.mono (by decide)) hr tk (by rfl) T.g_is_time T.F_is_time.kp T.b_is_time (da_cons (xv 5) da_nil)))))))))
  case len =>
    intro ds S Q E h
    match ds, h with
    | [.tup [.int a, .int b, .int c, .int d, .int e]], _ => rfl
  case read =>
    intro ds S Q E h
    match ds, h with
    | [.tup [.int a, .int b, .int c, .int d, .int e]], h =>
      have h : Q (.bl (isPr ⟨a, b, c, d, e⟩)) S := h
      simp [startD, retE, -isNum_n, -isNum_s]
      repeat' (refine ifs (fun _ => ?_) (fun _ => ?_))
      all_goals (refine cast_bl h ?_; simp_all [isPr, -isNum_n, -isNum_s])
theorem ok_are_promises {P : Program} {w : World} {K : PySem.W.Frag} {mg : Str → Option Value} {base : Heap} (T : Txt K mg w) : FnD P w K mg base 4 T.a_are_promises T.fd_are_promises ["thing"] sp_are_promises := by
  have G_is_promise := ok_is_promise (P := P) (base := base) T
  refine' fn_d T.F_are_promises sc_are_promises ?len (fun X W cdv A outer s H E hr eX tk po => ?body) ?read
  case body =>
    subst eX
    have hu64 := hr.units
    have hu65 := room65 hr
    have hu1 := room1 hr
    exact (dss_cons (ds_if (PW.pt (dw_or (dt_not (dt_val (x_callB c_isi T.n_isinstance bt_isinstance (da_cons (xv 0) (da_cons (x_ty T.n_tuple bt_tuple) da_nil))))) (dw_or (xt_cmp o_gt (x_callB c_len T.n_len bt_len (da_cons (xv 0) da_nil)) (xg_int T.g_MOST_PROMISES T.i_MOST_PROMISES)) (dw_or1 (dt_not (dt_val (x_callB (c_all rfl) T.n_all bt_all (da_cons (x_lc (own := [("one", 1)]) rfl sc_are_promises.nd (di_iter (xv 0)) (by rfl) (fun _ _ _ _ _ => (g_nm (j := 1) sc_are_promises.nd)) (fun _ _ _ _ _ => pts_dnil) (fun _ _ _ _ _ => (dx_call (G_is_promise.mono (by decide)) hr takes0 (by rfl) T.g_is_promise T.F_is_promise.kp T.b_is_promise (da_cons (xv 1) da_nil))) (by decide)) da_nil))))))))
  (dss_one (ds_ret dx_bl))
  dss_nil)
  (dss_one (ds_ret (x_callB (c_all rfl) T.n_all bt_all (da_cons (x_lc (own := [("one", 1), ("more", 2)]) rfl sc_are_promises.nd (xi_zip T.n_zip (da_cons (xv 0) (da_cons (dx_slice (xv 0) (do_some dx_int) do_none) da_nil))) (by rfl) (fun _ _ _ _ _ => (dg_tp rfl (dgs_cons (g_nm (j := 1) sc_are_promises.nd) (dgs_cons (g_nm (j := 2) sc_are_promises.nd) dgs_nil)))) (fun _ _ _ _ _ => pts_dnil) (fun _ _ _ _ _ => (x_cmp o_lt (x_ix hu1 (xv 1) dx_int) (x_ix hu1 (xv 2) dx_int))) (by decide)) da_nil)))))
  case len =>
    intro ds S Q E h
    obtain ⟨ps, rfl, _⟩ := h
    rfl
  case read =>
    intro ds S Q E h
    obtain ⟨ps, rfl, hl, h⟩ := h
    have k1 : ∀ (Ql : List D → IS → Prop), Ql (ps.map fun p => .bl (isPr p)) S → compW (Tg.nm 1) dYes (dCall sp_is_promise (dCons (dVar 1) dNil)) (wipeD [some (D.tup (List.map Pr.d ps)), none, none] [1]) (List.map Pr.d ps) [] S Ql := fun Ql q => by
      refine comp_map (g := fun d => .bl (isPrD d)) (fun d hd => ?_) (by simpa [Function.comp_def] using q)
      obtain ⟨p, _, rfl⟩ := List.mem_map.mp hd
      exact ⟨_, rfl, fun Q q => by simpa [wipeD, Pr.d, isPrD] using q⟩
    simp [startD, retE, hl]
    refine ifs (fun h1 => ?_) (fun h1 => k1 _ ?_)
    · refine cast_bl h ?_
      have : ¬ ps.length ≤ 4 := by omega
      simp [arePr, this]
    have e1 : (ps.map fun p => D.bl (isPr p)) = (ps.map fun p => isPr p).map .bl := by simp [Function.comp_def]
    rw [e1]
    refine ⟨_, _, rfl, rfl, ?_⟩
    have k2 : ∀ (Ql : List D → IS → Prop), Ql ((zipD (ps.map Pr.d) ((ps.map Pr.d).drop 1)).map fun d => .bl (risD d)) S → compW (Tg.tp [Tg.nm 1, Tg.nm 2]) dYes (dOp rdLt (dOp rdIx (dVar 1) (dC (D.int 0))) (dOp rdIx (dVar 2) (dC (D.int 0)))) (wipeD [some (D.tup (List.map Pr.d ps)), none, none] [1, 2]) (zipD (List.map Pr.d ps) (cutD (List.map Pr.d ps) (some 1) none)) [] S Ql := fun Ql q => by
      rw [cutD_tail]
      refine comp_map (g := fun d => .bl (risD d)) (fun d hd => ?_) q
      obtain ⟨p, p', rfl⟩ := zip_prs hd
      exact ⟨_, rfl, fun Q q => by simpa [wipeD, Pr.d, risD] using q⟩
    show blK _ _
    simp only [blK_bl]
    refine ifs (fun h2 => k2 _ ?_) (fun h2 => ?_)
    · have e2 : ∀ zs : List D, (zs.map fun d => D.bl (risD d)) = (zs.map risD).map .bl := fun zs => by simp [Function.comp_def]
      rw [e2]
      refine ⟨_, _, rfl, rfl, ?_⟩
      refine cast_bl h ?_
      have h1' : ps.length ≤ 4 := by omega
      simp at h2
      rw [List.all_map, show (id ∘ risD) = risD from rfl, ris_zip]
      simp [arePr, h1']
      exact fun _ => h2
    · refine cast_bl h ?_
      simp at h2
      simp [arePr]
      intro _ z
      obtain ⟨p, hp, e⟩ := h2
      rw [z p hp] at e
      cases e
theorem ok_is_state {P : Program} {w : World} {K : PySem.W.Frag} {mg : Str → Option Value} {base : Heap} (T : Txt K mg w) : FnD P w K mg base 5 T.a_is_state T.fd_is_state ["thing"] sp_is_state := by
  have G_is_number := ok_is_number (P := P) (base := base) T
  have G_are_promises := ok_are_promises (P := P) (base := base) T
  refine' fn_d T.F_is_state sc_is_state ?len (fun X W cdv A outer s H E hr eX tk po => ?body) ?read
  case body =>
    subst eX
    have hu64 := hr.units
    have hu65 := room65 hr
    have hu1 := room1 hr
    exact (dss_cons (ds_if (PW.pt (dw_or (dt_not (dt_val (x_callB c_isi T.n_isinstance bt_isinstance (da_cons (xv 0) (da_cons (x_ty T.n_tuple bt_tuple) da_nil))))) (dw_or (xt_cmp (o_ne hu64) (x_callB c_len T.n_len bt_len (da_cons (xv 0) da_nil)) dx_int) (dw_or (dt_not (dt_val (x_callB c_isi T.n_isinstance bt_isinstance (da_cons (x_ix hu1 (xv 0) dx_int) (da_cons (x_ty T.n_str bt_str) da_nil))))) (dw_or1 (xt_cmp (o_ne hu64) (x_ix hu1 (xv 0) dx_int) dx_str))))))
  (dss_one (ds_ret dx_bl))
  dss_nil)
  (dss_cons (ds_asg (xv 0) (dg_tp rfl (dgs_cons (g_nm (j := 1) sc_is_state.nd) (dgs_cons (g_nm (j := 2) sc_is_state.nd) (dgs_cons (g_nm (j := 3) sc_is_state.nd) (dgs_cons (g_nm (j := 4) sc_is_state.nd) (dgs_cons (g_nm (j := 5) sc_is_state.nd) (dgs_cons (g_nm (j := 6) sc_is_state.nd) dgs_nil))))))))
  (dss_cons (ds_if (PW.pt (dw_or (dt_not (dt_val (dx_call (G_is_number.mono (by decide)) hr tk (by rfl) T.g_is_number T.F_is_number.kp T.b_is_number (da_cons (xv 2) (da_cons dx_int (da_cons dx_non da_nil)))))) (dw_or (dt_not (dt_val (dx_call (G_is_number.mono (by decide)) hr tk (by rfl) T.g_is_number T.F_is_number.kp T.b_is_number (da_cons (xv 3) (da_cons dx_int (da_cons dx_non da_nil)))))) (dw_or1 (dt_not (dt_val (dx_call (G_are_promises.mono (by decide)) hr tk (by rfl) T.g_are_promises T.F_are_promises.kp T.b_are_promises (da_cons (xv 6) da_nil))))))))
  (dss_one (ds_ret dx_bl))
  dss_nil)
  (dss_one (ds_ret (dx_and (dx_call (G_is_number.mono (by decide)) hr tk (by rfl) T.g_is_number T.F_is_number.kp T.b_is_number (da_cons (xv 4) (da_cons dx_int (da_cons (xg_int T.g_MOST_HAD T.i_MOST_HAD) da_nil)))) (dx_one (dx_call (G_is_number.mono (by decide)) hr tk (by rfl) T.g_is_number T.F_is_number.kp T.b_is_number (da_cons (xv 5) (da_cons dx_int (da_cons (xg_int T.g_MOST_HAD T.i_MOST_HAD) da_nil)))))))))))
  case len =>
    intro ds S Q E h
    obtain ⟨s, rfl, _⟩ := h
    rfl
  case read =>
    intro ds S Q E h
    obtain ⟨⟨pool, turn, x, y, ps⟩, rfl, hl, h⟩ := h
    simp at hl
    simp [startD, retE, Sta.d, hl, okS_state, -isNum_n, -isNum_s]
    repeat' (refine ifs (fun _ => ?_) (fun _ => ?_))
    all_goals (refine cast_bl h ?_; simp_all [isSt, -isNum_n, -isNum_s])
theorem ok_need_state {P : Program} {w : World} {K : PySem.W.Frag} {mg : Str → Option Value} {base : Heap} (T : Txt K mg w) : FnD P w K mg base 6 T.a_need_state T.fd_need_state ["thing"] sp_need_state := by
  have G_is_state := ok_is_state (P := P) (base := base) T
  refine' fn_d T.F_need_state sc_need_state ?len (fun X W cdv A outer s H E hr eX tk po => ?body) ?read
  case body =>
    subst eX
    have hu64 := hr.units
    have hu65 := room65 hr
    have hu1 := room1 hr
    exact (dss_one (ds_if (dt_not (dt_val (dx_call (G_is_state.mono (by decide)) hr tk (by rfl) T.g_is_state T.F_is_state.kp T.b_is_state (da_cons (xv 0) da_nil))))
  (dss_one (ds_raise tk rfl (pmk_own PySem.F.excBase_ValueError T.x_NoState T.g_NoState T.k_NoState (raises_own T.e_NoState T.t_NoState) rfl)))
  dss_nil))
  case len =>
    intro ds S Q E h
    obtain ⟨s, rfl, _⟩ := h
    rfl
  case read =>
    intro ds S Q E h
    obtain ⟨s, rfl, hl, hs, h⟩ := h
    simpa [startD, retE, hl, hs] using h
theorem ok_is_key {P : Program} {w : World} {K : PySem.W.Frag} {mg : Str → Option Value} {base : Heap} (T : Txt K mg w) : FnD P w K mg base 1 T.a_is_key T.fd_is_key ["thing"] sp_is_key := by
  refine' fn_d T.F_is_key sc_is_key ?len (fun X W cdv A outer s H E hr eX tk po => ?body) ?read
  case body =>
    subst eX
    have hu64 := hr.units
    have hu65 := room65 hr
    have hu1 := room1 hr
    exact (dss_one (ds_ret (dx_and (x_callB c_isi T.n_isinstance bt_isinstance (da_cons (xv 0) (da_cons (x_ty T.n_str bt_str) da_nil))) (dx_and (x_chain o_le o_le dx_int (x_callB c_len T.n_len bt_len (da_cons (xv 0) da_nil)) (xg_int T.g_LONGEST_KEY T.i_LONGEST_KEY)) (dx_one (x_callB (c_all rfl) T.n_all bt_all (da_cons (x_lc (own := [("sign", 1)]) rfl sc_is_key.nd (di_iter (xv 0)) (by rfl) (fun _ _ _ _ _ => (g_nm (j := 1) sc_is_key.nd)) (fun _ _ _ _ _ => pts_dnil) (fun _ _ _ _ _ => (x_cmp (o_in hu65) (xv 1) (xg_str T.g_LETTERS T.i_LETTERS))) (by decide)) da_nil)))))))
  case len =>
    intro ds S Q E h
    match ds, h with
    | [.str _], _ => rfl
  case read =>
    intro ds S Q E h
    match ds, h with
    | [.str x], ⟨hl, h⟩ =>
      have k1 : ∀ (Ql : List D → IS → Prop), Ql ((x.cps.toList.map isLtr).map .bl) S → compW (Tg.nm 1) dYes (dOp rdIn (dVar 1) (dC (.str ltrs))) (wipeD [some (D.str x), none] [1]) (x.cps.toList.map fun c => D.str ⟨#[c]⟩) [] S Ql := fun Ql q => by
        refine comp_map (g := keyR) (fun d hd => ?_) (by simpa [Function.comp_def, keyR] using q)
        obtain ⟨c, _, rfl⟩ := List.mem_map.mp hd
        exact ⟨_, rfl, fun Q q => by simpa [wipeD, keyR, isLtr] using q⟩
      simp [startD, retE, hl, itemsOf]
      refine ifs (fun h1 => ifs (fun h2 => k1 _ ⟨_, _, rfl, rfl, ?_⟩) (fun h2 => ?_)) (fun h1 => ?_)
      · refine cast_bl h ?_
        have h1' : 1 ≤ x.length := by omega
        have h2' : x.length ≤ 20 := by omega
        simp [isKey, h1', h2', Function.comp_def]
      · refine cast_bl h ?_
        have h2' : ¬ x.length ≤ 20 := by omega
        simp [isKey, h2']
      · refine cast_bl h ?_
        have h1' : ¬ 1 ≤ x.length := by omega
        simp [isKey, h1']
theorem ok_is_secret {P : Program} {w : World} {K : PySem.W.Frag} {mg : Str → Option Value} {base : Heap} (T : Txt K mg w) : FnD P w K mg base 2 T.a_is_secret T.fd_is_secret ["thing"] sp_is_secret := by
  have G_is_key := ok_is_key (P := P) (base := base) T
  refine' fn_d T.F_is_secret sc_is_secret ?len (fun X W cdv A outer s H E hr eX tk po => ?body) ?read
  case body =>
    subst eX
    have hu64 := hr.units
    have hu65 := room65 hr
    have hu1 := room1 hr
    exact (dss_one (ds_ret (dx_call (G_is_key.mono (by decide)) hr tk (by rfl) T.g_is_key T.F_is_key.kp T.b_is_key (da_cons (xv 0) da_nil))))
  case len =>
    intro ds S Q E h
    match ds, h with
    | [.str _], _ => rfl
  case read =>
    intro ds S Q E h
    match ds, h with
    | [.str x], h => simpa [startD, retE] using h
theorem ok_need_secret {P : Program} {w : World} {K : PySem.W.Frag} {mg : Str → Option Value} {base : Heap} (T : Txt K mg w) : FnD P w K mg base 3 T.a_need_secret T.fd_need_secret ["thing"] sp_need_secret := by
  have G_is_secret := ok_is_secret (P := P) (base := base) T
  refine' fn_d T.F_need_secret sc_need_secret ?len (fun X W cdv A outer s H E hr eX tk po => ?body) ?read
  case body =>
    subst eX
    have hu64 := hr.units
    have hu65 := room65 hr
    have hu1 := room1 hr
    exact (dss_one (ds_if (dt_not (dt_val (dx_call (G_is_secret.mono (by decide)) hr tk (by rfl) T.g_is_secret T.F_is_secret.kp T.b_is_secret (da_cons (xv 0) da_nil))))
  (dss_one (ds_raise tk rfl (pmk_own PySem.F.excBase_ValueError T.x_NoSeal T.g_NoSeal T.k_NoSeal (raises_own T.e_NoSeal T.t_NoSeal) rfl)))
  dss_nil))
  case len =>
    intro ds S Q E h
    match ds, h with
    | [.str _], _ => rfl
  case read =>
    intro ds S Q E h
    match ds, h with
    | [.str x], ⟨h1, h2⟩ =>
      have := key_len h1
      have hl : x.length ≤ 1000000 := by omega
      simpa [startD, retE, h1, hl] using h2
theorem ok_lock_of {P : Program} {w : World} {K : PySem.W.Frag} {mg : Str → Option Value} {base : Heap} (T : Txt K mg w) : FnD P w K mg base 4 T.a_lock_of T.fd_lock_of ["secret", "digest"] sp_lock_of := by
  have G_need_secret := ok_need_secret (P := P) (base := base) T
  refine' fn_d T.F_lock_of sc_lock_of ?len (fun X W cdv A outer s H E hr eX tk po => ?body) ?read
  case body =>
    subst eX
    have hu64 := hr.units
    have hu65 := room65 hr
    have hu1 := room1 hr
    exact (dss_cons (ds_expr (dx_call (G_need_secret.mono (by decide)) hr tk (by rfl) T.g_need_secret T.F_need_secret.kp T.b_need_secret (da_cons (xv 0) da_nil)))
  (dss_one (ds_ret (dx_callV (i := 1) (nok_asked T) hr (by decide) (da_cons (dx_op o_add dx_str (xv 0)) da_nil)))))
  case len =>
    intro ds S Q E h
    obtain ⟨x, f, F, d, step, kds, rfl, _⟩ := h
    rfl
  case read =>
    intro ds S Q E h
    obtain ⟨x, f, F, d, step, kds, rfl, hk, D, hl, h1, h2⟩ := h
    have := key_len hk
    refine ⟨_, rfl, hk, ?_⟩
    refine ⟨f, F, _, rfl, D.clo, D.kd, _, rfl, ?_⟩
    refine ⟨by rw [len_lock]; omega, ?_⟩
    exact dig_in D hl h1 h2
theorem ok_mover {P : Program} {w : World} {K : PySem.W.Frag} {mg : Str → Option Value} {base : Heap} (T : Txt K mg w) : FnD P w K mg base 7 T.a_mover T.fd_mover ["state"] sp_mover := by
  have G_need_state := ok_need_state (P := P) (base := base) T
  refine' fn_d T.F_mover sc_mover ?len (fun X W cdv A outer s H E hr eX tk po => ?body) ?read
  case body =>
    subst eX
    have hu64 := hr.units
    have hu65 := room65 hr
    have hu1 := room1 hr
    exact (dss_cons (ds_expr (dx_call (G_need_state.mono (by decide)) hr tk (by rfl) T.g_need_state T.F_need_state.kp T.b_need_state (da_cons (xv 0) da_nil)))
  (dss_one (ds_ret (dx_op o_mod (x_ix hu1 (xv 0) dx_int) dx_int))))
  case len =>
    intro ds S Q E h
    obtain ⟨s, rfl, _⟩ := h
    rfl
  case read =>
    intro ds S Q E h
    obtain ⟨s, rfl, hl, hs, h⟩ := h
    refine ⟨_, rfl, ⟨s, rfl, hl, hs, ?_⟩⟩
    simpa [startD, retE, Sta.d] using h
theorem ok_is_move {P : Program} {w : World} {K : PySem.W.Frag} {mg : Str → Option Value} {base : Heap} (T : Txt K mg w) : FnD P w K mg base 4 T.a_is_move T.fd_is_move ["thing"] sp_is_move := by
  have G_is_number := ok_is_number (P := P) (base := base) T
  have G_is_secret := ok_is_secret (P := P) (base := base) T
  have G_is_promise := ok_is_promise (P := P) (base := base) T
  have G_is_amount := ok_is_amount (P := P) (base := base) T
  refine' fn_d T.F_is_move sc_is_move ?len (fun X W cdv A outer s H E hr eX tk po => ?body) ?read
  case body =>
    subst eX
    have hu64 := hr.units
    have hu65 := room65 hr
    have hu1 := room1 hr
    exact (dss_cons (ds_if (PW.pt (dw_or (dt_not (dt_val (x_callB c_isi T.n_isinstance bt_isinstance (da_cons (xv 0) (da_cons (x_ty T.n_tuple bt_tuple) da_nil))))) (dw_or (xt_cmp (o_eq hu64) (xv 0) (dx_tup da_nil)) (dw_or1 (dt_not (dt_val (x_callB c_isi T.n_isinstance bt_isinstance (da_cons (x_ix hu1 (xv 0) dx_int) (da_cons (x_ty T.n_str bt_str) da_nil)))))))))
  (dss_one (ds_ret dx_bl))
  dss_nil)
  (dss_cons (ds_if (xt_cmp (o_ne hu64) (x_kget T.kt_PARTS_OF (pe_glob (v := .ref T.a_PARTS_OF) rfl T.g_PARTS_OF rfl) (x_ix hu1 (xv 0) dx_int) dx_int) (x_callB c_len T.n_len bt_len (da_cons (xv 0) da_nil)))
  (dss_one (ds_ret dx_bl))
  dss_nil)
  (dss_cons (ds_star (n := 1) rfl (xv 0) (dgs_cons (g_nm (j := 1) sc_is_move.nd) (dgs_star (g_nm (j := 2) sc_is_move.nd))))
  (dss_cons (ds_if (xt_cmp (o_eq hu64) (xv 1) dx_str)
  (dss_one (ds_ret (dx_call (G_is_amount.mono (by decide)) hr tk (by rfl) T.g_is_amount T.F_is_amount.kp T.b_is_amount (da_cons (x_ix hu1 (xv 2) dx_int) da_nil))))
  dss_nil)
  (dss_cons (ds_if (xt_cmp (o_eq hu64) (xv 1) dx_str)
  (dss_one (ds_ret (dx_call (G_is_promise.mono (by decide)) hr tk (by rfl) T.g_is_promise T.F_is_promise.kp T.b_is_promise (da_cons (dx_tup (da_cons (x_ix hu1 (xv 2) dx_int) (da_cons dx_int (da_cons (x_ix hu1 (xv 2) dx_int) (da_cons (x_ix hu1 (xv 2) dx_int) (da_cons (x_ix hu1 (xv 2) dx_int) da_nil)))))) da_nil))))
  dss_nil)
  (dss_cons (ds_if (xt_cmp (o_eq hu64) (xv 1) dx_str)
  (dss_one (ds_ret (dx_and (dx_call (G_is_number.mono (by decide)) hr tk (by rfl) T.g_is_number T.F_is_number.kp T.b_is_number (da_cons (x_ix hu1 (xv 2) dx_int) (da_cons dx_int (da_cons dx_non da_nil)))) (dx_one (dx_call (G_is_secret.mono (by decide)) hr tk (by rfl) T.g_is_secret T.F_is_secret.kp T.b_is_secret (da_cons (x_ix hu1 (xv 2) dx_int) da_nil))))))
  dss_nil)
  (dss_one (ds_ret (dx_or (x_cmp (o_eq hu64) (xv 1) dx_str) (dx_one (dx_call (G_is_number.mono (by decide)) hr tk (by rfl) T.g_is_number T.F_is_number.kp T.b_is_number (da_cons (x_ix hu1 (xv 2) dx_int) (da_cons dx_int (da_cons dx_non da_nil))))))))))))))
  case len =>
    intro ds S Q E h
    obtain ⟨m, rfl, _⟩ := h
    rfl
  case read =>
    intro ds S Q E h
    obtain ⟨m, rfl, hf, h⟩ := h
    cases m with
    | pay n => simpa [startD, retE, Mv.d, isMv, -isNum_n, -isNum_s] using h
    | give a b c e => simpa [startD, retE, Mv.d, isMv, -isNum_n, -isNum_s] using h
    | claim a x =>
      obtain ⟨h1, h2⟩ := hf
      simp [startD, retE, Mv.d, h1, h2, -isNum_n, -isNum_s]
      repeat' (refine ifs (fun _ => ?_) (fun _ => ?_))
      all_goals (refine cast_bl h ?_; simp_all [isMv, -isNum_n, -isNum_s])
    | back a => simpa [startD, retE, Mv.d, isMv, -isNum_n, -isNum_s] using h
    | late a => simpa [startD, retE, Mv.d, isMv, -isNum_n, -isNum_s] using h
    | pass => simpa [startD, retE, Mv.d, isMv, -isNum_n, -isNum_s] using h
theorem ok_promise_of {P : Program} {w : World} {K : PySem.W.Frag} {mg : Str → Option Value} {base : Heap} (T : Txt K mg w) : FnD P w K mg base 1 T.a_promise_of T.fd_promise_of ["state", "mark"] sp_promise_of := by
  refine' fn_d T.F_promise_of sc_promise_of ?len (fun X W cdv A outer s H E hr eX tk po => ?body) ?read
  case body =>
    subst eX
    have hu64 := hr.units
    have hu65 := room65 hr
    have hu1 := room1 hr
    exact (dss_cons (s_for po rfl (di_iter (x_ix hu1 (xv 0) dx_int)) (g_nm (j := 2) sc_promise_of.nd)
  (dss_one (ds_if (xt_cmp (o_eq hu64) (x_ix hu1 (xv 2) dx_int) (xv 1))
  (dss_one (ds_ret (xv 2)))
  dss_nil)))
  (dss_one (ds_ret dx_non)))
  case len =>
    intro ds S Q E h
    obtain ⟨s, m, rfl, _⟩ := h
    rfl
  case read =>
    intro ds S Q E h
    obtain ⟨s, m, rfl, hl, h⟩ := h
    simp [startD, retE, Sta.d]
    refine forW_ind (fun ds ρ S' => ∃ l v sd, ds = List.map Pr.d l ∧ ρ = [sd, some (.int m), v] ∧ S' = S ∧ Q (optPr (promiseOf l m)) S) ?_ ?_ _ _ _ ⟨s.ps, _, _, rfl, rfl, rfl, h⟩
    · rintro ρ S' ⟨l, v, sd, e, rfl, rfl, q⟩
      cases l with
      | nil => exact q
      | cons _ _ => cases e
    · rintro d ds ρ S' ⟨l, v, sd, e, rfl, rfl, q⟩ ih
      cases l with
      | nil => cases e
      | cons p l =>
        simp at e
        obtain ⟨rfl, rfl⟩ := e
        refine ⟨_, rfl, ?_⟩
        simp [Pr.d]
        refine ifs (fun e => ?_) (fun e => ?_)
        · simpa [promiseOf, e, optPr, Pr.d] using q
        · refine ih _ _ ⟨l, _, _, rfl, rfl, rfl, ?_⟩
          simpa [promiseOf, e] using q
theorem ok_with_sums {P : Program} {w : World} {K : PySem.W.Frag} {mg : Str → Option Value} {base : Heap} (T : Txt K mg w) : FnD P w K mg base 1 T.a_with_sums T.fd_with_sums ["state", "party", "more", "promises"] sp_with_sums := by
  refine' fn_df T.F_with_sums sc_with_sums ?len (fun X W cdv A outer s H E hr eX tk po => ?body) ?read
  case body =>
    subst eX
    have hu64 := hr.units
    have hu65 := room65 hr
    have hu1 := room1 hr
    exact (dss_cons (ds_asg (xv 0) (dg_tp rfl (dgs_cons (g_nm (j := 4) sc_with_sums.nd) (dgs_cons (g_nm (j := 5) sc_with_sums.nd) (dgs_cons (g_nm (j := 6) sc_with_sums.nd) (dgs_cons (g_nm (j := 7) sc_with_sums.nd) (dgs_cons (g_nm (j := 8) sc_with_sums.nd) (dgs_cons (g_nm (j := 9) sc_with_sums.nd) dgs_nil))))))))
  (dss_cons (s_set (j := 10) (dx_lstI (da_cons (xv 7) (da_cons (xv 8) da_nil))) sc_with_sums.nd)
  (dss_cons (ds_augS hu1 ip_addD (xv 10) (xv 1) (xv 2))
  (dss_one (ds_ret (dx_tup (da_cons dx_str (da_cons (xv 5) (da_cons (dx_op o_add (xv 6) dx_int) (da_cons (x_ix hu1 (xv 10) dx_int) (da_cons (x_ix hu1 (xv 10) dx_int) (da_cons (xv 3) da_nil))))))))))))
  case len =>
    intro ds S Q E h
    obtain ⟨s, a, b, c, rfl, _⟩ := h
    rfl
  case read =>
    intro ds S Q E h
    obtain ⟨s, party, more, ps, rfl, hp, h⟩ := h
    simp [startD, Sta.d]
    intro a ha
    have fin : ∀ b c : Int, Q (D.tup [.str "state", .int s.pool, .int (s.turn + 1), .int b, .int c, .tup (ps.map Pr.d)]) S → dRet (dTup (dCons (dC (D.str (Str.ofString "state"))) (dCons (dVar 5) (dCons (dOp rdAdd (dVar 6) (dC (D.int 1))) (dCons (dOp rdIx (dVar 10) (dC (D.int 0))) (dCons (dOp rdIx (dVar 10) (dC (D.int 1))) (dCons (dVar 3) dNil)))))))
        (forE Q E) [some (D.tup [D.str (Str.ofString "state"), D.int s.pool, D.int s.turn, D.int s.x, D.int s.y, D.tup (List.map Pr.d s.ps)]), some (D.int party), some (D.int more), some (D.tup (List.map Pr.d ps)), some (D.str (Str.ofString "state")), some (D.int s.pool), some (D.int s.turn), some (D.int s.x), some (D.int s.y), some (D.tup (List.map Pr.d s.ps)), some (D.ref a)]
        (updS S a (IO.lst [D.int b, D.int c])) := fun b c q => by
      simp [s_ix_ref updS_same]
      exact ⟨S, less_upd ha, q⟩
    rcases hp with rfl | rfl
    · refine ⟨_, rfl, _, rfl, a, rfl, .inl ⟨_, _, _, updS_same, rfl, rfl, _, rfl, True.intro, a, rfl, .inl ⟨_, _, _, updS_same, rfl, rfl, ?_⟩⟩⟩
      rw [updS_updS]
      exact fin _ _ h
    · refine ⟨_, rfl, _, rfl, a, rfl, .inl ⟨_, _, _, updS_same, rfl, rfl, _, rfl, True.intro, a, rfl, .inl ⟨_, _, _, updS_same, rfl, rfl, ?_⟩⟩⟩
      rw [updS_updS]
      exact fin _ _ h
theorem ok_after_give {P : Program} {w : World} {K : PySem.W.Frag} {mg : Str → Option Value} {base : Heap} (T : Txt K mg w) : FnD P w K mg base 2 T.a_after_give T.fd_after_give ["state", "party", "parts"] sp_after_give := by
  have G_with_sums := ok_with_sums (P := P) (base := base) T
  refine' fn_d T.F_after_give sc_after_give ?len (fun X W cdv A outer s H E hr eX tk po => ?body) ?read
  case body =>
    subst eX
    have hu64 := hr.units
    have hu65 := room65 hr
    have hu1 := room1 hr
    exact (dss_cons (ds_asg (xv 2) (dg_tp rfl (dgs_cons (g_nm (j := 3) sc_after_give.nd) (dgs_cons (g_nm (j := 4) sc_after_give.nd) (dgs_cons (g_nm (j := 5) sc_after_give.nd) (dgs_cons (g_nm (j := 6) sc_after_give.nd) dgs_nil))))))
  (dss_cons (ds_if (PW.pt (dw_or (dt_val (x_callB (c_any rfl) T.n_any bt_any (da_cons (x_lc (own := [("promise", 7)]) rfl sc_after_give.nd (di_iter (x_ix hu1 (xv 0) dx_int)) (by rfl) (fun _ _ _ _ _ => (g_nm (j := 7) sc_after_give.nd)) (fun _ _ _ _ _ => pts_dnil) (fun _ _ _ _ _ => (x_cmp o_ge (x_ix hu1 (xv 7) dx_int) (xv 3))) (by decide)) da_nil))) (dw_or1 (xt_cmp o_lt (x_ix hu1 (xv 0) (dx_op o_add dx_int (xv 1))) (xv 4)))))
  (dss_one (ds_ret dx_non))
  dss_nil)
  (dss_one (ds_ret (dx_call (G_with_sums.mono (by decide)) hr tk (by rfl) T.g_with_sums T.F_with_sums.kp T.b_with_sums (da_cons (xv 0) (da_cons (xv 1) (da_cons (x_neg (xv 4)) (da_cons (dx_op o_add (x_ix hu1 (xv 0) dx_int) (dx_tup (da_cons (dx_tup (da_cons (xv 3) (da_cons (xv 1) (da_cons (xv 4) (da_cons (xv 5) (da_cons (xv 6) da_nil)))))) da_nil))) da_nil)))))))))
  case len =>
    intro ds S Q E h
    obtain ⟨s, party, a, b, c, e, rfl, _⟩ := h
    rfl
  case read =>
    intro ds S Q E h
    obtain ⟨s, party, a, b, c, e, rfl, hl, hp, h⟩ := h
    simp [startD, retE, Sta.d]
    refine comp_map (g := fun d => .bl (geD a d)) (fun d hd => ?_) (s_any ?_)
    · obtain ⟨p, _, rfl⟩ := List.mem_map.mp hd
      exact ⟨_, rfl, fun Q q => by simpa [wipeD, Pr.d, geD] using q⟩
    · rw [any_ge]
      simp only [blK_bl]
      refine ifs (fun h1 => ?_) (fun h1 => ?_)
      · have e1 : afterGive s party a b c e = none := if_pos (.inl h1)
        rw [e1] at h
        exact h
      · have hl' : s.ps.length ≤ 999999 := by omega
        have fin : ¬ s.had party < b → sp_with_sums [s.d, .int party, .int (-b), .tup (s.ps.map Pr.d ++ [.tup [.int a, .int party, .int b, .int c, .int e]])] S Q (fun _ _ _ => False) := fun h2 => by
          have e1 : afterGive s party a b c e = some _ := if_neg (fun z => z.elim h1 h2)
          rw [e1] at h
          exact ⟨s, party, -b, _, by rw [map_snoc], hp, h⟩
        rcases hp with rfl | rfl
        · simp
          refine ifs (fun h2 => ?_) (fun h2 => ⟨hl', fin (by simpa [Sta.had] using h2)⟩)
          have e1 : afterGive s 0 a b c e = none := if_pos (.inr (by simpa [Sta.had] using h2))
          rw [e1] at h
          exact h
        · simp
          refine ifs (fun h2 => ?_) (fun h2 => ⟨hl', fin (by simpa [Sta.had] using h2)⟩)
          have e1 : afterGive s 1 a b c e = none := if_pos (.inr (by simpa [Sta.had] using h2))
          rw [e1] at h
          exact h
theorem ok_after_taking {P : Program} {w : World} {K : PySem.W.Frag} {mg : Str → Option Value} {base : Heap} (T : Txt K mg w) : FnD P w K mg base 5 T.a_after_taking T.fd_after_taking ["state", "party", "move", "digest"] sp_after_taking := by
  have G_with_sums := ok_with_sums (P := P) (base := base) T
  have G_lock_of := ok_lock_of (P := P) (base := base) T
  have G_promise_of := ok_promise_of (P := P) (base := base) T
  refine' fn_d T.F_after_taking sc_after_taking ?len (fun X W cdv A outer s H E hr eX tk po => ?body) ?read
  case body =>
    subst eX
    have hu64 := hr.units
    have hu65 := room65 hr
    have hu1 := room1 hr
    exact (dss_cons (ds_star (n := 2) rfl (xv 2) (dgs_cons (g_nm (j := 4) sc_after_taking.nd) (dgs_cons (g_nm (j := 5) sc_after_taking.nd) (dgs_star (g_nm (j := 6) sc_after_taking.nd)))))
  (dss_cons (s_set (j := 7) (dx_call (G_promise_of.mono (by decide)) hr tk (by rfl) T.g_promise_of T.F_promise_of.kp T.b_promise_of (da_cons (xv 0) (da_cons (xv 5) da_nil))) sc_after_taking.nd)
  (dss_cons (ds_if (PW.pt (dw_or (xt_cmp o_isN (xv 7) dx_non) (dw_or1 (xt_cmp (o_ne hu64) (x_ix hu1 (xv 7) dx_int) (dx_if (xt_cmp (o_eq hu64) (xv 4) dx_str) (xv 1) (dx_op o_sub dx_int (xv 1)))))))
  (dss_one (ds_ret dx_non))
  dss_nil)
  (dss_cons (ds_if (PW.pt (dw_and (xt_cmp (o_eq hu64) (xv 4) dx_str) (dw_and1 (xt_cmp (o_ne hu64) (dx_call (G_lock_of.mono (by decide)) hr tk (by rfl) T.g_lock_of T.F_lock_of.kp T.b_lock_of (da_cons (x_ix hu1 (xv 6) dx_int) (da_cons (xv 3) da_nil))) (x_ix hu1 (xv 7) dx_int)))))
  (dss_one (ds_ret dx_non))
  dss_nil)
  (dss_cons (s_set (j := 8) (x_callTy c_tuple T.n_tuple bt_tuple (da_cons (x_lc (own := [("one", 9)]) rfl sc_after_taking.nd (di_iter (x_ix hu1 (xv 0) dx_int)) (by rfl) (fun _ _ _ _ _ => (g_nm (j := 9) sc_after_taking.nd)) (fun _ _ _ _ _ => (pts_done (xt_cmp (o_ne hu64) (x_ix hu1 (xv 9) dx_int) (xv 5)))) (fun _ _ _ _ _ => (xv 9)) (by decide)) da_nil)) sc_after_taking.nd)
  (dss_one (ds_ret (dx_call (G_with_sums.mono (by decide)) hr tk (by rfl) T.g_with_sums T.F_with_sums.kp T.b_with_sums (da_cons (xv 0) (da_cons (dx_if (xt_cmp (o_eq hu64) (xv 4) dx_str) (dx_op o_sub dx_int (xv 1)) (xv 1)) (da_cons (x_ix hu1 (xv 7) dx_int) (da_cons (xv 8) da_nil))))))))))))
  case len =>
    intro ds S Q E h
    obtain ⟨s, party, m, f, lk, rfl, _⟩ := h
    rfl
  case read =>
    intro ds S Q E h
    obtain ⟨s, party, m, f, lk, rfl, hm, hl, hp, hk, h⟩ := h
    cases m with
    | claim a x =>
      obtain ⟨hx, F, d, step, kds, Dg, hlt, hlk⟩ := hk
      simp [startD, retE, Mv.d]
      refine ⟨s, a, rfl, hl, ?_⟩
      simp [afterTaking, taken] at h
      cases hq : promiseOf s.ps a with
      | none => simpa [optPr, hq, optSta] using h
      | some p =>
        rw [hq] at h
        simp [optPr, Pr.d]
        refine ifs (fun e1 => ⟨x, f, F, d, step, kds, rfl, hx, Dg, hlt, fun v ev => ?_, fun ev => ?_⟩) (fun e1 => by simpa [e1, optSta] using h)
        · rw [hlk] at ev
          cases ev
          simp
          refine ifs (fun e2 => ?_) (fun e2 => by simpa [e1, e2, optSta] using h)
          simp [Sta.d]
          refine comp_pure (p := neD a) (g := id) (fun d hd => ?_) (fun d hd hn ρ' e Q q => ?_) ?_
          · obtain ⟨p', _, rfl⟩ := List.mem_map.mp hd
            exact ⟨_, rfl, fun Q q => by simpa [wipeD, Pr.d, neD] using q⟩
          · cases e
            simpa [wipeD] using q
          · simp only [List.map_id, List.nil_append, filter_ne]
            refine ⟨s, party, p.amount, _, rfl, hp, ?_⟩
            simpa [e1, e2, optSta] using h
        · rw [hlk] at ev
          cases ev
    | back a =>
      simp [startD, retE, Mv.d]
      refine ⟨s, a, rfl, hl, ?_⟩
      simp [afterTaking, taken] at h
      cases hq : promiseOf s.ps a with
      | none => simpa [optPr, hq, optSta] using h
      | some p =>
        rw [hq] at h
        simp [optPr, Pr.d]
        refine ifs (fun e1 => ?_) (fun e1 => by simpa [e1, optSta] using h)
        simp [Sta.d]
        refine comp_pure (p := neD a) (g := id) (fun d hd => ?_) (fun d hd hn ρ' e Q q => ?_) ?_
        · obtain ⟨p', _, rfl⟩ := List.mem_map.mp hd
          exact ⟨_, rfl, fun Q q => by simpa [wipeD, Pr.d, neD] using q⟩
        · cases e
          simpa [wipeD] using q
        · simp only [List.map_id, List.nil_append, filter_ne]
          refine ⟨s, 1 - party, p.amount, _, rfl, by omega, ?_⟩
          simpa [e1, optSta] using h
    | late a =>
      simp [startD, retE, Mv.d]
      refine ⟨s, a, rfl, hl, ?_⟩
      simp [afterTaking, taken] at h
      cases hq : promiseOf s.ps a with
      | none => simpa [optPr, hq, optSta] using h
      | some p =>
        rw [hq] at h
        simp [optPr, Pr.d]
        refine ifs (fun e1 => ?_) (fun e1 => by simpa [e1, optSta] using h)
        simp [Sta.d]
        refine comp_pure (p := neD a) (g := id) (fun d hd => ?_) (fun d hd hn ρ' e Q q => ?_) ?_
        · obtain ⟨p', _, rfl⟩ := List.mem_map.mp hd
          exact ⟨_, rfl, fun Q q => by simpa [wipeD, Pr.d, neD] using q⟩
        · cases e
          simpa [wipeD] using q
        · simp only [List.map_id, List.nil_append, filter_ne]
          refine ⟨s, party, p.amount, _, rfl, hp, ?_⟩
          simpa [e1, optSta] using h
    | pay _ => cases hm
    | give _ _ _ _ => cases hm
    | pass => cases hm
theorem ok_led_to {P : Program} {w : World} {K : PySem.W.Frag} {mg : Str → Option Value} {base : Heap} (T : Txt K mg w) : FnD P w K mg base 6 T.a_led_to T.fd_led_to ["state", "party", "move", "digest"] sp_led_to := by
  have G_with_sums := ok_with_sums (P := P) (base := base) T
  have G_after_taking := ok_after_taking (P := P) (base := base) T
  have G_after_give := ok_after_give (P := P) (base := base) T
  refine' fn_d T.F_led_to sc_led_to ?len (fun X W cdv A outer s H E hr eX tk po => ?body) ?read
  case body =>
    subst eX
    have hu64 := hr.units
    have hu65 := room65 hr
    have hu1 := room1 hr
    exact (dss_cons (ds_star (n := 1) rfl (xv 2) (dgs_cons (g_nm (j := 4) sc_led_to.nd) (dgs_star (g_nm (j := 5) sc_led_to.nd))))
  (dss_cons (ds_if (xt_cmp (o_eq hu64) (xv 4) dx_str)
  (dss_one (ds_ret (dx_call (G_with_sums.mono (by decide)) hr tk (by rfl) T.g_with_sums T.F_with_sums.kp T.b_with_sums (da_cons (xv 0) (da_cons (xv 1) (da_cons dx_int (da_cons (x_ix hu1 (xv 0) dx_int) da_nil)))))))
  dss_nil)
  (dss_cons (ds_if (xt_cmp (o_eq hu64) (xv 4) dx_str)
  (dss_one (ds_ret (dx_call (G_after_give.mono (by decide)) hr tk (by rfl) T.g_after_give T.F_after_give.kp T.b_after_give (da_cons (xv 0) (da_cons (xv 1) (da_cons (xv 5) da_nil))))))
  dss_nil)
  (dss_cons (ds_if (xt_cmp (o_ne hu64) (xv 4) dx_str)
  (dss_one (ds_ret (dx_call (G_after_taking.mono (by decide)) hr tk (by rfl) T.g_after_taking T.F_after_taking.kp T.b_after_taking (da_cons (xv 0) (da_cons (xv 1) (da_cons (xv 2) (da_cons (xv 3) da_nil)))))))
  dss_nil)
  (dss_cons (ds_if (xt_cmp o_lt (x_ix hu1 (xv 0) (dx_op o_add dx_int (xv 1))) (x_ix hu1 (xv 5) dx_int))
  (dss_one (ds_ret dx_non))
  dss_nil)
  (dss_cons (s_set (j := 6) (dx_call (G_with_sums.mono (by decide)) hr tk (by rfl) T.g_with_sums T.F_with_sums.kp T.b_with_sums (da_cons (xv 0) (da_cons (xv 1) (da_cons (x_neg (x_ix hu1 (xv 5) dx_int)) (da_cons (x_ix hu1 (xv 0) dx_int) da_nil))))) sc_led_to.nd)
  (dss_one (ds_ret (dx_op o_add (dx_op o_add (dx_slice (xv 6) do_none (do_some (dx_op o_sub dx_int (xv 1)))) (dx_tup (da_cons (dx_op o_add (x_ix hu1 (xv 6) (dx_op o_sub dx_int (xv 1))) (x_ix hu1 (xv 5) dx_int)) da_nil))) (dx_slice (xv 6) (do_some (dx_op o_sub dx_int (xv 1))) do_none))))))))))
  case len =>
    intro ds S Q E h
    obtain ⟨s, party, m, f, lk, rfl, _⟩ := h
    rfl
  case read =>
    intro ds S Q E h
    obtain ⟨s, party, m, f, lk, rfl, hl, hp, hk, h⟩ := h
    have hl6 : s.ps.length ≤ 1000000 := by omega
    cases m with
    | pass =>
      simp [startD, retE, Mv.d]
      exact ⟨5, _, rfl, rfl, s, party, 0, _, rfl, hp, h⟩
    | give a b c e =>
      simp [startD, retE, Mv.d]
      exact ⟨s, party, a, b, c, e, rfl, hl, hp, h⟩
    | claim a x =>
      simp [startD, retE, Mv.d]
      exact ⟨s, party, _, f, lk, rfl, rfl, hl6, hp, hk, h⟩
    | back a =>
      simp [startD, retE, Mv.d]
      exact ⟨s, party, _, f, lk, rfl, rfl, hl6, hp, hk, h⟩
    | late a =>
      simp [startD, retE, Mv.d]
      exact ⟨s, party, _, f, lk, rfl, rfl, hl6, hp, hk, h⟩
    | pay n =>
      simp [startD, retE, Mv.d]
      rcases hp with rfl | rfl
      · refine ⟨_, _, rfl, rfl, True.intro, ?_⟩
        simp only [blK_bl]
        refine ifs (fun h1 => ?_) (fun h1 => ?_)
        · have e1 : ledTo s 0 (.pay n) lk = none := if_pos (by simpa [Sta.had] using h1)
          rw [e1] at h
          exact h
        · have e1 : ledTo s 0 (.pay n) lk = some _ := if_neg (by simpa [Sta.had] using h1)
          rw [e1] at h
          refine ⟨5, _, rfl, rfl, s, 0, -n, _, rfl, .inl rfl, ?_⟩
          simpa [withSums, Sta.d, cutD, HT.sIx, optSta] using h
      · refine ⟨_, _, rfl, rfl, True.intro, ?_⟩
        simp only [blK_bl]
        refine ifs (fun h1 => ?_) (fun h1 => ?_)
        · have e1 : ledTo s 1 (.pay n) lk = none := if_pos (by simpa [Sta.had] using h1)
          rw [e1] at h
          exact h
        · have e1 : ledTo s 1 (.pay n) lk = some _ := if_neg (by simpa [Sta.had] using h1)
          rw [e1] at h
          refine ⟨5, _, rfl, rfl, s, 1, -n, _, rfl, .inr rfl, ?_⟩
          simpa [withSums, Sta.d, cutD, HT.sIx, optSta] using h
theorem ok_moved {P : Program} {w : World} {K : PySem.W.Frag} {mg : Str → Option Value} {base : Heap} (T : Txt K mg w) : FnD P w K mg base 8 T.a_moved T.fd_moved ["state", "party", "move", "digest"] (sp_moved T.a_NoMove) := by
  have G_is_state := ok_is_state (P := P) (base := base) T
  have G_led_to := ok_led_to (P := P) (base := base) T
  have G_is_move := ok_is_move (P := P) (base := base) T
  have G_mover := ok_mover (P := P) (base := base) T
  have G_is_number := ok_is_number (P := P) (base := base) T
  have G_need_state := ok_need_state (P := P) (base := base) T
  refine' fn_d T.F_moved sc_moved ?len (fun X W cdv A outer s H E hr eX tk po => ?body) ?read
  case body =>
    subst eX
    have hu64 := hr.units
    have hu65 := room65 hr
    have hu1 := room1 hr
    exact (dss_cons (ds_expr (dx_call (G_need_state.mono (by decide)) hr tk (by rfl) T.g_need_state T.F_need_state.kp T.b_need_state (da_cons (xv 0) da_nil)))
  (dss_cons (ds_if (PW.pt (dw_or (dt_not (dt_val (dx_call (G_is_number.mono (by decide)) hr tk (by rfl) T.g_is_number T.F_is_number.kp T.b_is_number (da_cons (xv 1) (da_cons dx_int (da_cons dx_int da_nil)))))) (dw_or (xt_cmp (o_ne hu64) (xv 1) (dx_call (G_mover.mono (by decide)) hr tk (by rfl) T.g_mover T.F_mover.kp T.b_mover (da_cons (xv 0) da_nil))) (dw_or1 (dt_not (dt_val (dx_call (G_is_move.mono (by decide)) hr tk (by rfl) T.g_is_move T.F_is_move.kp T.b_is_move (da_cons (xv 2) da_nil))))))))
  (dss_one (ds_raise tk rfl (pmk_own PySem.F.excBase_ValueError T.x_NoMove T.g_NoMove T.k_NoMove (raises_own T.e_NoMove T.t_NoMove) rfl)))
  dss_nil)
  (dss_cons (s_set (j := 4) (dx_call (G_led_to.mono (by decide)) hr tk (by rfl) T.g_led_to T.F_led_to.kp T.b_led_to (da_cons (xv 0) (da_cons (xv 1) (da_cons (xv 2) (da_cons (xv 3) da_nil))))) sc_moved.nd)
  (dss_cons (ds_if (PW.pt (dw_or (xt_cmp o_isN (xv 4) dx_non) (dw_or1 (dt_not (dt_val (dx_call (G_is_state.mono (by decide)) hr tk (by rfl) T.g_is_state T.F_is_state.kp T.b_is_state (da_cons (xv 4) da_nil)))))))
  (dss_one (ds_raise tk rfl (pmk_own PySem.F.excBase_ValueError T.x_NoMove T.g_NoMove T.k_NoMove (raises_own T.e_NoMove T.t_NoMove) rfl)))
  dss_nil)
  (dss_one (ds_ret (xv 4)))))))
  case len =>
    intro ds S Q E h
    obtain ⟨s, party, m, f, lk, rfl, _⟩ := h
    rfl
  case read =>
    intro ds S Q E h
    obtain ⟨s, party, m, f, lk, rfl, hs, hp, hf, hk, h1, h2⟩ := h
    have hl4 := isSt_len hs
    have hl6 : s.ps.length ≤ 1000000 := by omega
    simp [startD, retE]
    refine ⟨hl6, hs, ?_⟩
    rw [if_pos (by omega)]
    refine ⟨s, rfl, hl6, hs, ?_⟩
    simp
    refine ifs (fun e1 => c_is_move hf ?_) (fun e1 => h2 (if_neg fun z => e1 z.1))
    simp only [blK_bl]
    refine ifs (fun e2 => ⟨s, party, m, f, lk, rfl, by omega, hp, hk, ?_⟩) (fun e2 => h2 (if_neg fun z => e2 z.2))
    have e3 : movedTo s party m lk = (ledTo s party m lk).bind fun s' => if isSt s' = true then some s' else none := if_pos ⟨e1, e2⟩
    rw [e3] at h1 h2
    cases hq : ledTo s party m lk with
    | none =>
      rw [hq] at h2
      exact h2 rfl
    | some s' =>
      rw [hq] at h1 h2
      have hl' := ledTo_len hq
      show (if isNon s'.d = true then _ else _)
      rw [show isNon s'.d = false from rfl, if_neg Bool.false_ne_true]
      refine ⟨s', rfl, by omega, ?_⟩
      simp only [blK_bl]
      refine ifs (fun e4 => h1 s' (by simp [e4])) (fun e4 => h2 (by simp [e4]))
end K43

set_option Elab.async false
set_option linter.all false
set_option autoImplicit false
set_option maxRecDepth 100000
set_option maxHeartbeats 4000000
/-! the plain law of k43: promises there and back -/
namespace K43
open PySem PySem.Spec L2 DL

theorem isSt_iff {s : Sta} : isSt s = true ↔ 1 ≤ s.pool ∧ 0 ≤ s.turn ∧ arePr s.ps = true ∧ (0 ≤ s.x ∧ s.x ≤ 10000000000) ∧ (0 ≤ s.y ∧ s.y ≤ 10000000000) := by
  unfold isSt
  simp only [isNum_n, isNum_s, Bool.and_eq_true, decide_eq_true_eq]
  constructor
  · rintro ⟨⟨⟨⟨a, b⟩, c⟩, d⟩, e⟩; exact ⟨a, b, c, d, e⟩
  · rintro ⟨a, b, c, d, e⟩; exact ⟨⟨⟨⟨a, b⟩, c⟩, d⟩, e⟩
theorem arePr_iff {ps : List Pr} : arePr ps = true ↔ ps.length ≤ 4 ∧ (∀ p ∈ ps, isPr p = true) ∧ rising ps = true := by
  unfold arePr
  simp only [Bool.and_eq_true, decide_eq_true_eq, List.all_eq_true]
  constructor
  · rintro ⟨⟨a, b⟩, c⟩; exact ⟨a, b, c⟩
  · rintro ⟨a, b, c⟩; exact ⟨⟨a, b⟩, c⟩
theorem isPr_iff {p : Pr} : isPr p = true ↔ 1 ≤ p.mark ∧ (0 ≤ p.by_ ∧ p.by_ ≤ 1) ∧ (1 ≤ p.amount ∧ p.amount ≤ 1000000000) ∧ (0 ≤ p.lock ∧ p.lock ≤ 1000000000000000000000000000000) ∧ 0 ≤ p.until_ := by
  unfold isPr
  simp only [isNum_n, isNum_s, Bool.and_eq_true, decide_eq_true_eq]
  constructor
  · rintro ⟨⟨⟨⟨a, b⟩, c⟩, d⟩, e⟩; exact ⟨a, b, c, d, e⟩
  · rintro ⟨a, b, c, d, e⟩; exact ⟨⟨⟨⟨a, b⟩, c⟩, d⟩, e⟩
theorem rising_snoc : ∀ {ps : List Pr} {p : Pr}, rising ps = true → (∀ q ∈ ps, q.mark < p.mark) → rising (ps ++ [p]) = true
  | [], _, _, _ => rfl
  | [q], p, _, h => by
    have := h q (by simp)
    simp [rising, this]
  | q :: r :: l, p, h1, h2 => by
    simp only [rising, Bool.and_eq_true, decide_eq_true_eq] at h1
    have := rising_snoc (ps := r :: l) (p := p) h1.2 fun z hz => h2 z (by simp [hz])
    show (decide (q.mark < r.mark) && rising (r :: (l ++ [p]))) = true
    simp only [Bool.and_eq_true, decide_eq_true_eq]
    exact ⟨h1.1, this⟩
theorem prOf_snoc {ps : List Pr} {p : Pr} (h : ∀ q ∈ ps, q.mark < p.mark) : promiseOf (ps ++ [p]) p.mark = some p := by
  unfold promiseOf
  rw [List.find?_append]
  have : ps.find? (fun q => decide (q.mark = p.mark)) = none := by
    rw [List.find?_eq_none]
    intro q hq
    have := h q hq
    simp; omega
  rw [this]
  simp
theorem prOf_none {ps : List Pr} {m : Int} (h : ∀ q ∈ ps, q.mark < m) : promiseOf ps m = none := by
  unfold promiseOf
  rw [List.find?_eq_none]
  intro q hq
  have := h q hq
  simp; omega
theorem others_snoc {ps : List Pr} {p : Pr} (h : ∀ q ∈ ps, q.mark < p.mark) : others (ps ++ [p]) p.mark = ps := by
  unfold others
  rw [List.filter_append]
  have : ps.filter (fun q => decide (q.mark ≠ p.mark)) = ps := by
    rw [List.filter_eq_self]
    intro q hq
    have := h q hq
    simp; omega
  rw [this]
  simp
theorem mod2 (t : Int) : t % 2 = 0 ∨ t % 2 = 1 := by omega
theorem moved_none {t : Sta} {party m : Int} {lk : Str → Int} (h : promiseOf t.ps m = none) : (∀ x, movedTo t party (.claim m x) lk = none) ∧ movedTo t party (.back m) lk = none ∧ movedTo t party (.late m) lk = none := by
  refine ⟨fun x => ?_, ?_, ?_⟩ <;> simp [movedTo, ledTo, afterTaking, taken, h]
/-- a given promise -/
structure Gv (s : Sta) (w0 : Str) (lk : Str → Int) (mark held un : Int) : Prop where
  st : isSt s = true
  few : s.ps.length ≤ 3
  m0 : 1 ≤ mark
  top : ∀ q ∈ s.ps, q.mark < mark
  h1 : 1 ≤ held
  h2 : held ≤ 1000000000
  h3 : held ≤ s.had (s.turn % 2)
  l1 : 0 ≤ lk w0
  l2 : lk w0 ≤ 1000000000000000000000000000000
  u1 : 0 ≤ un
section
variable {s : Sta} {w0 w1 : Str} {lk : Str → Int} {mark held un : Int}
def pG (s : Sta) (w0 : Str) (lk : Str → Int) (mark held un : Int) : Pr := ⟨mark, s.turn % 2, held, lk w0, un⟩
def later (s : Sta) (w0 : Str) (lk : Str → Int) (mark held un : Int) : Sta := withSums s (s.turn % 2) (-held) (s.ps ++ [pG s w0 lk mark held un])
theorem Gv.pOk (g : Gv s w0 lk mark held un) : isPr (pG s w0 lk mark held un) = true := by
  rw [isPr_iff]
  have := g.m0; have := g.h1; have := g.h2; have := g.l1; have := g.l2; have := g.u1
  refine ⟨g.m0, ?_, ⟨g.h1, g.h2⟩, ⟨g.l1, g.l2⟩, g.u1⟩
  show 0 ≤ s.turn % 2 ∧ s.turn % 2 ≤ 1
  omega
theorem Gv.psOk (g : Gv s w0 lk mark held un) : arePr (s.ps ++ [pG s w0 lk mark held un]) = true := by
  obtain ⟨_, _, hp, _, _⟩ := isSt_iff.mp g.st
  obtain ⟨h1, h2, h3⟩ := arePr_iff.mp hp
  refine arePr_iff.mpr ⟨by have := g.few; simp; omega, fun p hp => ?_, rising_snoc h3 g.top⟩
  rcases List.mem_append.mp hp with h | h
  · exact h2 p h
  · rw [List.mem_singleton.mp h]; exact g.pOk
theorem Gv.laterOk (g : Gv s w0 lk mark held un) : isSt (later s w0 lk mark held un) = true := by
  obtain ⟨a, b, hp, hx, hy⟩ := isSt_iff.mp g.st
  have h3 := g.h3
  have := g.h1
  refine isSt_iff.mpr ⟨a, by show 0 ≤ s.turn + 1; omega, g.psOk, ?_, ?_⟩
  · show 0 ≤ (if s.turn % 2 = 0 then s.x + -held else s.x) ∧ _
    unfold Sta.had at h3
    show 0 ≤ (if s.turn % 2 = 0 then s.x + -held else s.x) ∧ (if s.turn % 2 = 0 then s.x + -held else s.x) ≤ 10000000000
    split at h3 <;> rename_i e <;> simp [e] <;> omega
  · unfold Sta.had at h3
    show 0 ≤ (if s.turn % 2 = 0 then s.y else s.y + -held) ∧ (if s.turn % 2 = 0 then s.y else s.y + -held) ≤ 10000000000
    split at h3 <;> rename_i e <;> simp [e] <;> omega
theorem Gv.given (g : Gv s w0 lk mark held un) : movedTo s (s.turn % 2) (.give mark held (lk w0) un) lk = some (later s w0 lk mark held un) := by
  have h0 : isMv (.give mark held (lk w0) un) = true := by
    have := g.pOk
    rw [isPr_iff] at this
    show isPr ⟨mark, 0, held, lk w0, un⟩ = true
    rw [isPr_iff]
    exact ⟨this.1, by simp, this.2.2.1, this.2.2.2.1, this.2.2.2.2⟩
  have h1 : ledTo s (s.turn % 2) (.give mark held (lk w0) un) lk = some (later s w0 lk mark held un) := by
    show afterGive s (s.turn % 2) mark held (lk w0) un = _
    unfold afterGive
    rw [if_neg]
    · rfl
    · rintro (z | z)
      · obtain ⟨p, hp, e⟩ := List.any_eq_true.mp z
        have := g.top p hp
        simp at e
        omega
      · have := g.h3
        omega
  unfold movedTo
  rw [if_pos ⟨rfl, h0⟩, h1]
  simp [g.laterOk]
/-- the next one's turn -/
theorem later_turn : (later s w0 lk mark held un).turn = s.turn + 1 := rfl
theorem later_prOf (g : Gv s w0 lk mark held un) : promiseOf (later s w0 lk mark held un).ps mark = some (pG s w0 lk mark held un) := prOf_snoc (p := pG s w0 lk mark held un) g.top
theorem later_others (g : Gv s w0 lk mark held un) : others (later s w0 lk mark held un).ps mark = s.ps := others_snoc (p := pG s w0 lk mark held un) g.top
/-- given back -/
def backTo' (s : Sta) : Sta := ⟨s.pool, s.turn + 2, s.x, s.y, s.ps⟩
theorem backOk (g : isSt s = true) : isSt (backTo' s) = true := by
  obtain ⟨a, b, hp, hx, hy⟩ := isSt_iff.mp g
  exact isSt_iff.mpr ⟨a, by show 0 ≤ s.turn + 2; omega, hp, hx, hy⟩
theorem Gv.back (g : Gv s w0 lk mark held un) : movedTo (later s w0 lk mark held un) ((later s w0 lk mark held un).turn % 2) (.back mark) lk = some (backTo' s) := by
  have e1 : 1 - (s.turn + 1) % 2 = s.turn % 2 := by omega
  have h1 : ledTo (later s w0 lk mark held un) ((later s w0 lk mark held un).turn % 2) (.back mark) lk = some (backTo' s) := by
    show taken _ mark (1 - (s.turn + 1) % 2) (1 - (s.turn + 1) % 2) (fun _ => true) = _
    unfold taken
    rw [later_prOf g, e1]
    show (if s.turn % 2 = s.turn % 2 ∧ true = true then _ else _) = _
    rw [if_pos ⟨rfl, rfl⟩, later_others g]
    unfold withSums backTo' later
    congr 1
    unfold withSums
    rcases mod2 s.turn with e | e <;> simp [e, pG] <;> omega
  unfold movedTo
  rw [if_pos ⟨rfl, by show isNum 1 none (.int mark) = true; have := g.m0; simpa using this⟩, h1]
  simp [backOk g.st]
/-- what is asked behind it -/
theorem passOk {t : Sta} (h : isSt t = true) : isSt ⟨t.pool, t.turn + 1, t.x, t.y, t.ps⟩ = true := by
  obtain ⟨a, b, hp, hx, hy⟩ := isSt_iff.mp h
  exact isSt_iff.mpr ⟨a, by show 0 ≤ t.turn + 1; omega, hp, hx, hy⟩
theorem pass_ok {t : Sta} (h : isSt t = true) : movedTo t (t.turn % 2) .pass lk = some ⟨t.pool, t.turn + 1, t.x, t.y, t.ps⟩ := by
  obtain ⟨a, b, hp, hx, hy⟩ := isSt_iff.mp h
  have e : withSums t (t.turn % 2) 0 t.ps = ⟨t.pool, t.turn + 1, t.x, t.y, t.ps⟩ := by
    unfold withSums
    simp
  unfold movedTo ledTo
  rw [if_pos ⟨rfl, rfl⟩]
  simp only [Option.bind_some, e]
  rw [if_pos (passOk h)]
/-- claimed by the other: as a pay of that amount -/
def paidX (s : Sta) (held : Int) : Int := if s.turn % 2 = 0 then s.x + -held else s.x + held
def paidY (s : Sta) (held : Int) : Int := if s.turn % 2 = 0 then s.y + held else s.y + -held
def fits (s : Sta) (held : Int) : Bool := isSt ⟨s.pool, s.turn + 1, paidX s held, paidY s held, s.ps⟩
theorem Gv.pay (g : Gv s w0 lk mark held un) : movedTo s (s.turn % 2) (.pay held) lk = if fits s held = true then some ⟨s.pool, s.turn + 1, paidX s held, paidY s held, s.ps⟩ else none := by
  have h1 : ledTo s (s.turn % 2) (.pay held) lk = some ⟨s.pool, s.turn + 1, paidX s held, paidY s held, s.ps⟩ := by
    show (if s.had (s.turn % 2) < held then none else _) = _
    rw [if_neg (by have := g.h3; omega)]
    rfl
  unfold movedTo
  rw [if_pos ⟨rfl, by show isNum 1 (some 1000000000) (.int held) = true; have := g.h1; have := g.h2; simp; omega⟩, h1]
  rfl
theorem Gv.claim (g : Gv s w0 lk mark held un) (hk : isKey w0 = true) : movedTo (later s w0 lk mark held un) ((later s w0 lk mark held un).turn % 2) (.claim mark w0) lk = if fits s held = true then some ⟨s.pool, s.turn + 2, paidX s held, paidY s held, s.ps⟩ else none := by
  have e1 : 1 - (s.turn + 1) % 2 = s.turn % 2 := by omega
  have h1 : ledTo (later s w0 lk mark held un) ((later s w0 lk mark held un).turn % 2) (.claim mark w0) lk = some ⟨s.pool, s.turn + 2, paidX s held, paidY s held, s.ps⟩ := by
    show taken _ mark (1 - (s.turn + 1) % 2) ((s.turn + 1) % 2) (fun p => decide (lk w0 = p.lock)) = _
    unfold taken
    rw [later_prOf g, e1]
    show (if s.turn % 2 = s.turn % 2 ∧ decide (lk w0 = lk w0) = true then _ else _) = _
    rw [if_pos ⟨rfl, by simp⟩, later_others g]
    unfold withSums paidX paidY later
    congr 1
    unfold withSums
    rcases mod2 s.turn with e | e
    · have e2 : (s.turn + 1) % 2 = 1 := by omega
      simp [e, e2, pG]; omega
    · have e2 : (s.turn + 1) % 2 = 0 := by omega
      simp [e, e2, pG]; omega
  have h2 : isSt ⟨s.pool, s.turn + 2, paidX s held, paidY s held, s.ps⟩ = fits s held := by
    unfold fits isSt
    obtain ⟨a, b, hp, hx, hy⟩ := isSt_iff.mp g.st
    have e3 : isNum 0 none (.int (s.turn + 2)) = isNum 0 none (.int (s.turn + 1)) := by
      simp only [isNum_n]
      rw [decide_eq_true (by omega : (0 : Int) ≤ s.turn + 2), decide_eq_true (by omega : (0 : Int) ≤ s.turn + 1)]
    simp only [e3]
  unfold movedTo
  rw [if_pos ⟨rfl, by show (isNum 1 none (.int mark) && isKey w0) = true; have := g.m0; simp [hk]; omega⟩, h1]
  simp only [Option.bind_some, h2]
theorem Gv.claim1 (g : Gv s w0 lk mark held un) (hd : lk w1 ≠ lk w0) : movedTo (later s w0 lk mark held un) ((later s w0 lk mark held un).turn % 2) (.claim mark w1) lk = none := by
  have h1 : ledTo (later s w0 lk mark held un) ((later s w0 lk mark held un).turn % 2) (.claim mark w1) lk = none := by
    show taken _ mark (1 - (s.turn + 1) % 2) ((s.turn + 1) % 2) (fun p => decide (lk w1 = p.lock)) = _
    unfold taken
    rw [later_prOf g]
    show (if s.turn % 2 = _ ∧ decide (lk w1 = lk w0) = true then _ else _) = _
    rw [if_neg (fun z => hd (by simpa using z.2))]
  unfold movedTo
  rw [h1]
  simp
theorem Gv.late0 (g : Gv s w0 lk mark held un) : movedTo (later s w0 lk mark held un) ((later s w0 lk mark held un).turn % 2) (.late mark) lk = none := by
  have h1 : ledTo (later s w0 lk mark held un) ((later s w0 lk mark held un).turn % 2) (.late mark) lk = none := by
    show taken _ mark ((s.turn + 1) % 2) ((s.turn + 1) % 2) (fun _ => true) = _
    unfold taken
    rw [later_prOf g]
    show (if s.turn % 2 = _ ∧ true = true then _ else _) = _
    rw [if_neg (fun z => by have := z.1; omega)]
  unfold movedTo
  rw [h1]
  simp
def onTo (t : Sta) : Sta := ⟨t.pool, t.turn + 1, t.x, t.y, t.ps⟩
theorem Gv.on_claim (g : Gv s w0 lk mark held un) (x : Str) : movedTo (onTo (later s w0 lk mark held un)) ((onTo (later s w0 lk mark held un)).turn % 2) (.claim mark x) lk = none := by
  have h1 : ledTo (onTo (later s w0 lk mark held un)) ((onTo (later s w0 lk mark held un)).turn % 2) (.claim mark x) lk = none := by
    show taken _ mark (1 - (s.turn + 1 + 1) % 2) ((s.turn + 1 + 1) % 2) (fun p => decide (lk x = p.lock)) = _
    unfold taken
    rw [show (onTo (later s w0 lk mark held un)).ps = (later s w0 lk mark held un).ps from rfl, later_prOf g]
    exact if_neg (fun z => by
      have z1 : s.turn % 2 = 1 - (s.turn + 1 + 1) % 2 := z.1
      omega)
  unfold movedTo
  rw [h1]
  simp
theorem Gv.on_back (g : Gv s w0 lk mark held un) : movedTo (onTo (later s w0 lk mark held un)) ((onTo (later s w0 lk mark held un)).turn % 2) (.back mark) lk = none := by
  have h1 : ledTo (onTo (later s w0 lk mark held un)) ((onTo (later s w0 lk mark held un)).turn % 2) (.back mark) lk = none := by
    show taken _ mark (1 - (s.turn + 1 + 1) % 2) (1 - (s.turn + 1 + 1) % 2) (fun _ => true) = _
    unfold taken
    rw [show (onTo (later s w0 lk mark held un)).ps = (later s w0 lk mark held un).ps from rfl, later_prOf g]
    exact if_neg (fun z => by
      have z1 : s.turn % 2 = 1 - (s.turn + 1 + 1) % 2 := z.1
      omega)
  unfold movedTo
  rw [h1]
  simp
def lateTo (s : Sta) : Sta := ⟨s.pool, s.turn + 3, s.x, s.y, s.ps⟩
theorem lateOk (g : isSt s = true) : isSt (lateTo s) = true := by
  obtain ⟨a, b, hp, hx, hy⟩ := isSt_iff.mp g
  exact isSt_iff.mpr ⟨a, by show 0 ≤ s.turn + 3; omega, hp, hx, hy⟩
theorem Gv.on_late (g : Gv s w0 lk mark held un) : movedTo (onTo (later s w0 lk mark held un)) ((onTo (later s w0 lk mark held un)).turn % 2) (.late mark) lk = some (lateTo s) := by
  have e1 : (s.turn + 1 + 1) % 2 = s.turn % 2 := by omega
  have h1 : ledTo (onTo (later s w0 lk mark held un)) ((onTo (later s w0 lk mark held un)).turn % 2) (.late mark) lk = some (lateTo s) := by
    show taken _ mark ((s.turn + 1 + 1) % 2) ((s.turn + 1 + 1) % 2) (fun _ => true) = _
    unfold taken
    rw [show (onTo (later s w0 lk mark held un)).ps = (later s w0 lk mark held un).ps from rfl, later_prOf g, e1]
    show (if s.turn % 2 = s.turn % 2 ∧ true = true then _ else _) = _
    rw [if_pos ⟨rfl, rfl⟩, later_others g]
    unfold withSums lateTo onTo later
    congr 1
    unfold withSums
    rcases mod2 s.turn with e | e <;> simp [e, pG] <;> omega
  unfold movedTo
  rw [if_pos ⟨rfl, by show isNum 1 none (.int mark) = true; have := g.m0; simpa using this⟩, h1]
  simp [lateOk g.st]
end
end K43

set_option Elab.async false
set_option linter.all false
set_option autoImplicit false
set_option maxRecDepth 100000
set_option maxHeartbeats 4000000
namespace K43
open PySem PySem.Spec L2 DL NdefX

/-! ### draws -/
structure DrawAt (S : IS) (a c : Addr) (cells : List Int) (at_ m : Int) : Prop where
  sa : S a = some (.lst [.ref c, .int at_, .int m])
  sc : S c = some (.lst (cells.map .int))
  ne : cells ≠ []
  few : cells.length ≤ 63
  lo : 0 ≤ m
  hi : m < 2147483647
def Draw (S : IS) (a c : Addr) : Prop := a ≠ c ∧ ∃ cells at_ m, DrawAt S a c cells at_ m
/-- the draw went on, nothing else changed -/
def Step (S S' : IS) (a c : Addr) : Prop := Draw S' a c ∧ ∀ b, b ≠ a → b ≠ c → S' b = S b
theorem Step.refl {S : IS} {a c : Addr} (h : Draw S a c) : Step S S a c := ⟨h, fun _ _ _ => rfl⟩
theorem Step.trans {S S1 S2 : IS} {a c : Addr} (h : Step S S1 a c) (g : Step S1 S2 a c) : Step S S2 a c := ⟨g.1, fun b h1 h2 => (g.2 b h1 h2).trans (h.2 b h1 h2)⟩
def sp__law_begin : SpD := fun ds S Q _ => ∃ ns : List Int, ds = [.scr ns] ∧ ∀ a c S', Draw S' a c → (∀ b, S b ≠ none → S' b = S b) → Q (.ref a) S'
def absD : D → D
  | .int i => .int (if i < 0 then -i else i)
  | d => d
theorem oks_ints (n : Nat) : ∀ xs : List Int, okDs n (xs.map .int) = true
  | [] => by cases n <;> rfl
  | x :: xs => by simp [oks_ints n xs]
theorem eqs_nil' {xs : List D} (h : eqDs xs [] = true) : xs = [] := by
  cases xs with
  | nil => rfl
  | cons _ _ => cases h
def sp__law_take : SpD := fun ds S Q _ => ∃ a c n, ds = [.ref a, .int n] ∧ Draw S a c ∧ 0 < n ∧ n < 1073741824 ∧ ∀ r S', 0 ≤ r → r < n → Step S S' a c → Q (.int r) S'
/-- one of some -/
def OneOf : D → D → Prop
  | .lst xs, d => d ∈ xs
  | .str x, d => ∃ c ∈ x.cps.toList, d = .str ⟨#[c]⟩
  | _, _ => False
def someD : D → Prop
  | .lst xs => xs ≠ [] ∧ xs.length ≤ 1000000
  | .str x => 0 < x.length ∧ x.length ≤ 1000000
  | _ => False
def sp__law_pick : SpD := fun ds S Q _ => ∃ a c x, ds = [.ref a, x] ∧ someD x ∧ Draw S a c ∧ ∀ d S', OneOf x d → Step S S' a c → Q d S'

/-! ### the digest is made -/
def sp__law_digest (P0 : Addr) : SpD := fun ds S Q _ => ∃ a c, ds = [.ref a] ∧ Draw S a c ∧ TabD S P0 q_asked ∧ ∀ S' f F d step, Draw S' a c → Dig S' f F d step [] → TabD S' P0 q_asked → (∀ b, S b ≠ none → b ≠ a → b ≠ c → b ≠ P0 → S' b = S b) → Q (.ref f) S'
theorem Draw.none {S : IS} {a c : Addr} (h : Draw S a c) : S a ≠ none ∧ S c ≠ none := by
  obtain ⟨_, cells, at_, m, d⟩ := h
  exact ⟨by rw [d.sa]; exact Option.some_ne_none _, by rw [d.sc]; exact Option.some_ne_none _⟩
theorem Draw.of {S S' : IS} {a c : Addr} (h : Draw S a c) (h1 : S' a = S a) (h2 : S' c = S c) : Draw S' a c := by
  obtain ⟨n, cells, at_, m, d⟩ := h
  exact ⟨n, cells, at_, m, ⟨by rw [h1]; exact d.sa, by rw [h2]; exact d.sc, d.ne, d.few, d.lo, d.hi⟩⟩
/-- a thing that isn't the draw's -/
theorem Draw.ne_raw {S : IS} {a c b : Addr} {o : HO} (h : Draw S a c) (e : S b = some (.raw o)) : b ≠ a ∧ b ≠ c := by
  obtain ⟨_, cells, at_, m, d⟩ := h
  exact ⟨fun z => (by rw [z, d.sa] at e; cases e), fun z => (by rw [z, d.sc] at e; cases e)⟩
theorem Draw.ne_dct {S : IS} {a c b : Addr} {o : List (Key × D)} (h : Draw S a c) (e : S b = some (.dct o)) : b ≠ a ∧ b ≠ c := by
  obtain ⟨_, cells, at_, m, d⟩ := h
  exact ⟨fun z => (by rw [z, d.sa] at e; cases e), fun z => (by rw [z, d.sc] at e; cases e)⟩

theorem TabD.keep {S S' : IS} {P : Addr} {q : Str} (h : TabD S P q) (k : ∀ b o, S b = some (.raw o) → S' b = some (.raw o)) : TabD S' P q := by
  obtain ⟨ps, h1, h2, h3⟩ := h
  refine ⟨ps, k _ _ h1, h2, fun pos cv hc => ?_⟩
  obtain ⟨c, e1, e2⟩ := h3 pos cv hc
  exact ⟨c, e1, k _ _ e2⟩
theorem Step.raw {S S' : IS} {a c b : Addr} {o : HO} (h : Step S S' a c) (hd : Draw S a c) (e : S b = some (.raw o)) : S' b = some (.raw o) := by
  obtain ⟨h1, h2⟩ := hd.ne_raw e
  rw [h.2 b h1 h2]; exact e
theorem Dig.keep {S S' : IS} {f : Addr} {F : NF} {d : Addr} {step : Int} {kds kds' : List (Key × D)} (D : Dig S f F d step kds) (k : ∀ b o, S b = some (.raw o) → S' b = some (.raw o)) (h : S' d = some (.dct kds')) : Dig S' f F d step kds' := by
  refine ⟨⟨k _ _ D.clo.fn, k _ _ D.clo.co, D.clo.len, fun p hp => ?_, D.clo.inj, fun i y hy => ?_⟩, D.kd, h, D.low, D.high⟩
  · obtain ⟨u, e⟩ := D.clo.all p hp
    exact ⟨u, k _ _ e⟩
  · obtain ⟨c, u, h1, h2, h3⟩ := D.clo.has i y hy
    exact ⟨c, u, h1, h2, k _ _ h3⟩
theorem Dig.step {S S' : IS} {a c : Addr} {f : Addr} {F : NF} {d : Addr} {step : Int} {kds : List (Key × D)} (D : Dig S f F d step kds) (hd : Draw S a c) (h : Step S S' a c) : Dig S' f F d step kds := by
  refine D.keep (fun b o e => h.raw hd e) ?_
  obtain ⟨h1, h2⟩ := hd.ne_dct D.at_
  rw [h.2 d h1 h2]; exact D.at_

/-! ### words, pools, moves of the law -/
def sp__law_words : SpD := fun ds S Q _ => ∃ a c n, ds = [.ref a, .int n] ∧ Draw S a c ∧ 0 ≤ n ∧ n ≤ 20 ∧ ∀ (ws : List Str) S', Step S S' a c → (ws.length : Int) = n → (∀ x ∈ ws, isKey x = true) → ws.Nodup → Q (.lst (ws.map .str)) S'
/-- all that a digest told is small -/
def VOk (kds : List (Key × D)) : Prop := ∀ k v, kget kds k = some v → ∃ i, v = .int i ∧ 0 ≤ i ∧ i ≤ 4000000000000
def sp__law_pool : SpD := fun ds S Q _ => ∃ (a c f : Addr) (F : NF) (d : Addr) (step : Int) (kds : List (Key × D)) (ws : List Str), ds = [.ref a, .ref f, .lst (ws.map .str)] ∧ Draw S a c ∧ Dig S f F d step kds ∧ VOk kds ∧ kds.length < 900 ∧ ws ≠ [] ∧ ws.length ≤ 100 ∧ (∀ x ∈ ws, isKey x = true) ∧
  ∀ s S' kds', isSt s = true → Draw S' a c → Dig S' f F d step kds' → VOk kds' → kds'.length ≤ kds.length + 4 → (∀ k v, kget kds k = some v → kget kds' k = some v) → (∀ b, b ≠ a → b ≠ c → b ≠ d → S' b = S b) → Q s.d S'
def nextTo (s : Sta) (m : Mv) (lk : Str → Int) : Option Sta := movedTo s (s.turn % 2) m lk
def sp__law_next : SpD := fun ds S Q _ => ∃ (s : Sta) (m : Mv) (f : Addr) (lk : Str → Int), ds = [s.d, m.d, .ref f] ∧ isSt s = true ∧ m.fit ∧ LkOk S f lk m ∧ Q (optSta (nextTo s m lk)) S
/-- both words' locks were asked -/
def Both (S : IS) (f : Addr) (w0 w1 : Str) (lk : Str → Int) : Prop := isKey w0 = true ∧ isKey w1 = true ∧ ∃ F d step kds, Dig S f F d step kds ∧ kds.length < 1000 ∧ kget kds (.inr ("lock " ++ w0)) = some (.int (lk w0)) ∧ kget kds (.inr ("lock " ++ w1)) = some (.int (lk w1))
def sp__law_given : SpD := fun ds S Q _ => ∃ (a c : Addr) (s : Sta) (f : Addr) (w0 w1 : Str) (lk : Str → Int), ds = [.ref a, s.d, .ref f, .str w0] ∧ Draw S a c ∧ isSt s = true ∧ Both S f w0 w1 lk ∧ 0 ≤ lk w0 ∧ lk w0 ≤ 1000000000000000000000000000000 ∧
  (s.had (s.turn % 2) = 0 ∨ s.ps.length = 4 → Q .non S) ∧ (∀ S' mark held un, Step S S' a c → Gv s w0 lk mark held un → Q (.tup [(later s w0 lk mark held un).d, (Mv.give mark held (lk w0) un).d]) S')
def sp__law_over : SpD := fun ds S Q _ => ∃ (s : Sta) (mark : Int) (f : Addr) (w0 w1 : Str) (lk : Str → Int), ds = [s.d, .int mark, .ref f, .lst [.str w0, .str w1]] ∧ isSt s = true ∧ promiseOf s.ps mark = none ∧ Both S f w0 w1 lk ∧ Q (.bl true) S
def sp__law_right : SpD := fun ds S Q _ => ∃ (s : Sta) (mark held un : Int) (f : Addr) (w0 w1 : Str) (lk : Str → Int), ds = [s.d, (later s w0 lk mark held un).d, (Mv.give mark held (lk w0) un).d, .ref f, .lst [.str w0, .str w1]] ∧ Gv s w0 lk mark held un ∧ Both S f w0 w1 lk ∧ lk w1 ≠ lk w0 ∧ Q (.bl true) S
theorem ix_had {s : Sta} {p : Int} {S : IS} {Q : DK} (h : p = 0 ∨ p = 1) (q : Q (.int (s.had p)) S) : rdIx s.d (.int (3 + p)) S Q := by
  rcases h with rfl | rfl
  · exact ⟨3, _, rfl, rfl, q⟩
  · exact ⟨4, _, rfl, rfl, q⟩
def markD : D → D
  | .tup (d :: _) => d
  | d => d
/-- a loop over moves none of which can be -/
abbrev tbN (i j k : Nat) : DSt := dIfS (dTst (dOp rdNotN (dCall sp__law_next (dCons (dVar i) (dCons (dVar j) (dCons (dVar k) dNil)))) (dC D.non))) (dRet (dC (D.bl false))) dNext
theorem none_aux {S : IS} {EE : DEnds} {i j k : Nat} {t : Sta} {f : Addr} {lk : Str → Int} {ρ : Rho} (hi : ρ[i]? = some (some t.d)) (hk : ρ[k]? = some (some (.ref f))) (ij : i ≠ j) (kj : k ≠ j) (hj : j < ρ.length) (ht : isSt t = true) (hn : ∀ v, EE.nx (ρ.set j (some v)) S) :
    ∀ (l : List Mv) (v : D), (∀ m ∈ l, m.fit ∧ LkOk S f lk m ∧ nextTo t m lk = none) → forW (.nm j) (tbN i j k) EE (l.map Mv.d) (ρ.set j (some v)) S
  | [], v, _ => hn v
  | m :: l, v, h => by
    obtain ⟨h1, h2, h3⟩ := h m (by simp)
    refine ⟨_, rfl, ?_⟩
    rw [List.set_set]
    refine ⟨t.d, by rw [List.getElem?_set_ne (Ne.symm ij)]; exact hi, m.d, by rw [List.getElem?_set_self hj], .ref f, by rw [List.getElem?_set_ne (Ne.symm kj)]; exact hk, t, m, f, lk, rfl, ht, h1, h2, ?_⟩
    rw [h3]
    refine ⟨rfl, false, rfl, ifs (fun z => nomatch z) (fun _ => ?_)⟩
    exact none_aux hi hk ij kj hj ht hn l m.d fun m' hm => h m' (by simp [hm])
theorem none_loop {S : IS} {EE : DEnds} {i j k : Nat} {t : Sta} {f : Addr} {lk : Str → Int} {ρ : Rho} (m : Mv) (l : List Mv) (hi : ρ[i]? = some (some t.d)) (hk : ρ[k]? = some (some (.ref f))) (ij : i ≠ j) (kj : k ≠ j) (hj : j < ρ.length) (ht : isSt t = true) (hn : ∀ v, EE.nx (ρ.set j (some v)) S)
    (h : ∀ m' ∈ m :: l, m'.fit ∧ LkOk S f lk m' ∧ nextTo t m' lk = none) : forW (.nm j) (tbN i j k) EE ((m :: l).map Mv.d) ρ S := by
  obtain ⟨h1, h2, h3⟩ := h m (by simp)
  refine ⟨_, rfl, ?_⟩
  refine ⟨t.d, by rw [List.getElem?_set_ne (Ne.symm ij)]; exact hi, m.d, by rw [List.getElem?_set_self hj], .ref f, by rw [List.getElem?_set_ne (Ne.symm kj)]; exact hk, t, m, f, lk, rfl, ht, h1, h2, ?_⟩
  rw [h3]
  refine ⟨rfl, false, rfl, ifs (fun z => nomatch z) (fun _ => ?_)⟩
  exact none_aux hi hk ij kj hj ht hn l m.d fun m' hm => h m' (by simp [hm])
theorem okS_key {x : Str} (h : isKey x = true) : okS x = true ∧ x.length ≤ 1000000 := by
  have hl := key_len h
  refine ⟨?_, by omega⟩
  unfold isKey at h
  simp only [Bool.and_eq_true] at h
  have h3 := List.all_eq_true.mp h.2
  unfold okS
  rw [Array.all_eq_true_iff_forall_mem]
  intro c hc
  have := h3 c (Array.mem_toList_iff.mpr hc)
  unfold isLtr at this
  have hm := of_decide_eq_true this
  have all : ∀ c ∈ ltrs.cps.toList, c < 1114112 := by decide +kernel
  exact decide_eq_true (all c hm)
theorem Both.lk0 {S : IS} {f : Addr} {w0 w1 : Str} {lk : Str → Int} (b : Both S f w0 w1 lk) (m : Int) : (Mv.claim m w0).fit ∧ LkOk S f lk (.claim m w0) := by
  obtain ⟨h0, h1, F, d, step, kds, Dg, hl, g0, g1⟩ := b
  exact ⟨okS_key h0, h0, F, d, step, kds, Dg, hl, g0⟩
theorem Both.lk1 {S : IS} {f : Addr} {w0 w1 : Str} {lk : Str → Int} (b : Both S f w0 w1 lk) (m : Int) : (Mv.claim m w1).fit ∧ LkOk S f lk (.claim m w1) := by
  obtain ⟨h0, h1, F, d, step, kds, Dg, hl, g0, g1⟩ := b
  exact ⟨okS_key h1, h1, F, d, step, kds, Dg, hl, g1⟩
theorem claimedOk {s : Sta} {held : Int} (h : fits s held = true) : isSt ⟨s.pool, s.turn + 2, paidX s held, paidY s held, s.ps⟩ = true := by
  obtain ⟨a, b, c, d, e⟩ := isSt_iff.mp h
  exact isSt_iff.mpr ⟨a, by have b' : 0 ≤ s.turn + 1 := b; show 0 ≤ s.turn + 2; omega, c, d, e⟩
theorem dig_any {S : IS} {f : Addr} {F : NF} {d : Addr} {step : Int} {kds : List (Key × D)} {t : Str} {Qc : DK} (D0 : Dig S f F d step kds) (hl : kds.length < 950) (hv : VOk kds)
    (h : ∀ (i : Int) (S' : IS) (kds' : List (Key × D)), Dig S' f F d step kds' → VOk kds' → kget kds' (.inr t) = some (.int i) → 0 ≤ i → i ≤ 4000000000000 → kds'.length ≤ kds.length + 1 → (∀ k v, kget kds k = some v → kget kds' k = some v) → (∀ b, b ≠ d → S' b = S b) → ∀ S0, showS (csOf F) S S0 = S' → Qc (.int i) S0) :
    CloAt S f F frA [.ref d, .int step] ∧ sp_asked [.ref d, .int step] [.str t] (hideS (csOf F) S) Qc := by
  have lo := D0.low
  have hi := D0.high
  refine ⟨D0.clo, kds, by rw [hideS_out D0.out]; exact D0.at_, by omega, D0.low, D0.high, fun v ev => ?_, fun ev => ?_⟩
  · obtain ⟨i, rfl, h1, h2⟩ := hv _ _ ev
    exact h i S kds D0 hv ev h1 h2 (by omega) (fun _ _ e => e) (fun _ _ => rfl) _ show_hide
  · have e1 : (0 : Int) ≤ step * (kds.length + 1) := Int.mul_nonneg (by omega) (by omega)
    have e2 : step * ((kds.length : Int) + 1) ≤ 4000000000 * 1000 := by
      refine Int.mul_le_mul (by omega) (by omega) (by omega) (by decide)
    refine h _ _ _ (D0.keep (fun b o e => ?_) updS_same) (fun k v e => ?_) (by rw [kget_kput, if_pos rfl]) e1 (by omega) kput_length (fun k v e => ?_) (fun b hb => updS_ne hb) _ (show_upd D0.out)
    · rw [updS_ne (fun z => by rw [z, D0.at_] at e; cases e)]; exact e
    · rw [kget_kput] at e
      split at e
      · cases e
        exact ⟨_, rfl, e1, by omega⟩
      · exact hv k v e
    · rw [kget_kput, if_neg (fun z => by rw [z, ev] at e; cases e)]
      exact e
def claimD (m : Int) (d : D) : D := .tup [.str "claim", .int m, d]
theorem over_all {S : IS} {f : Addr} {w0 w1 : Str} {lk : Str → Int} {t : Sta} {mark : Int} (b : Both S f w0 w1 lk) (h : promiseOf t.ps mark = none) : ∀ m ∈ [Mv.back mark, .late mark, .claim mark w0, .claim mark w1], m.fit ∧ LkOk S f lk m ∧ nextTo t m lk = none := by
  obtain ⟨h1, h2, h3⟩ := moved_none (party := t.turn % 2) (lk := lk) h
  intro m hm
  simp at hm
  rcases hm with rfl | rfl | rfl | rfl
  · exact ⟨True.intro, True.intro, h2⟩
  · exact ⟨True.intro, True.intro, h3⟩
  · exact ⟨(b.lk0 mark).1, (b.lk0 mark).2, h1 _⟩
  · exact ⟨(b.lk1 mark).1, (b.lk1 mark).2, h1 _⟩
@[simp] theorem okDs_prs {n : Nat} : ∀ ps : List Pr, okDs (n + 1) (ps.map Pr.d) = true
  | [] => rfl
  | p :: ps => by
    rw [List.map_cons, oks_cons, okDs_prs ps]
    simp [Pr.d]
@[simp] theorem eqDs_prs : ∀ ps : List Pr, eqDs (ps.map Pr.d) (ps.map Pr.d) = true
  | [] => rfl
  | p :: ps => by
    rw [List.map_cons, eqs_cons, eqDs_prs ps]
    simp [Pr.d]
def sp_law (P0 : Addr) : SpD := fun ds S Q _ => ∃ ns : List Int, ds = [.scr ns] ∧ TabD S P0 q_asked ∧ ∀ S', Q (.bl true) S'

/-! ### words -/
theorem ofEmpty : (Str.ofString "").cps = #[] := by decide +kernel
theorem join_l : ∀ cs : List Nat, (Str.join (Str.ofString "") (cs.map fun c => (⟨#[c]⟩ : Str))).cps.toList = cs
  | [] => rfl
  | [c] => rfl
  | c :: c' :: cs => by
    have ih := join_l (c' :: cs)
    have e : Str.join (Str.ofString "") ((c :: c' :: cs).map fun c => (⟨#[c]⟩ : Str)) = (⟨#[c]⟩ : Str) ++ Str.ofString "" ++ Str.join (Str.ofString "") ((c' :: cs).map fun c => (⟨#[c]⟩ : Str)) := rfl
    rw [e]
    show ((#[c] ++ (Str.ofString "").cps) ++ (Str.join (Str.ofString "") ((c' :: cs).map fun c => (⟨#[c]⟩ : Str))).cps).toList = _
    rw [ofEmpty, Array.toList_append, ih]
    rfl
theorem join_chars (cs : List Nat) : (Txt.join (Str.ofString "") (cs.map fun c => (⟨#[c]⟩ : Str))).cps.toList = cs := by
  show (Builtin.Str.glued _ _).cps.toList = _
  rw [StrLaws.glued_eq_join]
  exact join_l cs
theorem len_l (x : Str) : x.length = x.cps.toList.length := by rw [Array.length_toList]; rfl
theorem key_l {x : Str} (h1 : 1 ≤ x.cps.toList.length) (h2 : x.cps.toList.length ≤ 20) (h3 : ∀ c ∈ x.cps.toList, isLtr c = true) : isKey x = true := by
  unfold isKey
  rw [len_l]
  simp only [Bool.and_eq_true, decide_eq_true_eq]
  exact ⟨⟨h1, h2⟩, List.all_eq_true.mpr h3⟩
theorem key_ltr {x : Str} (h : isKey x = true) : ∀ c ∈ x.cps.toList, isLtr c = true := by
  unfold isKey at h
  simp only [Bool.and_eq_true] at h
  exact List.all_eq_true.mp h.2
theorem app_l (x y : Str) : (x ++ y).cps.toList = x.cps.toList ++ y.cps.toList := by
  show (x.cps ++ y.cps).toList = _
  rw [Array.toList_append]
theorem cut_l (x : Str) : (cutS x none (some 19)).cps.toList = x.cps.toList.take (min 19 x.length) := by
  unfold cutS HT.sIx
  simp
theorem php {α : Type} [DecidableEq α] : ∀ (L M : List α), L.Nodup → M.length < L.length → ∃ x ∈ L, x ∉ M
  | [], M, _, h => by simp at h
  | x :: L, M, nd, h => by
    by_cases hx : x ∈ M
    · have nd' := List.nodup_cons.mp nd
      obtain ⟨y, hy, hm⟩ := php L (M.erase x) nd'.2 (by
        rw [List.length_erase_of_mem hx]
        have : 0 < M.length := List.length_pos_of_mem hx
        simp at h
        omega)
      refine ⟨y, by simp [hy], fun z => hm ?_⟩
      rw [List.mem_erase_of_ne (fun e => nd'.1 (by rw [← e]; exact hy))]
      exact z
    · exact ⟨x, by simp, hx⟩
def chr (c : Nat) : Str := ⟨#[c]⟩
/-- the words that are tried -/
def tries (x : Str) : List Str := x :: ltrs.cps.toList.map fun c => cutS x none (some 19) ++ chr c
theorem tries_key {x : Str} (h : isKey x = true) : ∀ y ∈ tries x, isKey y = true := by
  intro y hy
  have hl := key_len h
  rw [len_l] at hl
  rcases List.mem_cons.mp hy with rfl | hy
  · exact h
  · obtain ⟨c, hc, rfl⟩ := List.mem_map.mp hy
    have e : (cutS x none (some 19) ++ chr c).cps.toList = x.cps.toList.take (min 19 x.length) ++ [c] := by rw [app_l, cut_l]; rfl
    refine key_l (by rw [e]; simp) (by rw [e]; simp; omega) (fun c' hc' => ?_)
    rw [e] at hc'
    rcases List.mem_append.mp hc' with z | z
    · exact key_ltr h c' (List.mem_of_mem_take z)
    · rw [List.mem_singleton.mp z]
      exact decide_eq_true hc
theorem ltrs_nd : ltrs.cps.toList.Nodup := by decide +kernel
theorem ltrs_len : ltrs.cps.toList.length = 26 := by decide +kernel
theorem tries_new {x : Str} {ws : List Str} (h : ws.length < 26) : ∃ y ∈ tries x, y ∉ ws := by
  obtain ⟨y, hy, hn⟩ := php (ltrs.cps.toList.map fun c => cutS x none (some 19) ++ chr c) ws (by
    refine List.pairwise_map.mpr (ltrs_nd.imp fun hne e => hne ?_)
    have e2 := congrArg (fun s : Str => s.cps.toList) e
    simp only [app_l] at e2
    have e3 := List.append_cancel_left e2
    exact (List.cons.inj e3).1) (by rw [List.length_map, ltrs_len]; exact h)
  exact ⟨y, List.mem_cons_of_mem _ hy, hn⟩
theorem len_empty : (Str.ofString "").length = 0 := by decide +kernel
theorem any_mem {ws : List Str} {x : Str} : ((ws.map D.str).any fun z => eqD z (.str x)) = decide (x ∈ ws) := by
  induction ws with
  | nil => simp
  | cons w ws ih =>
    rw [List.map_cons, List.any_cons, ih]
    by_cases e : w = x
    · subst e; simp
    · have e' : ¬ x = w := fun z => e z.symm
      simp [e, e']
theorem oks_keys {ws : List Str} (h : ∀ x ∈ ws, isKey x = true) : okDs 59 (ws.map .str) = true := by
  induction ws with
  | nil => rfl
  | cons w ws ih =>
    rw [List.map_cons, oks_cons, ih fun x hx => h x (by simp [hx])]
    simp [(okS_key (h w (by simp))).1]
def newD (ws : List Str) : D → Bool
  | .str x => !decide (x ∈ ws)
  | _ => false
theorem items_ltrs : itemsOf (.str (Str.ofString "abcdefghijklmnopqrstuvwxyz")) = some (ltrs.cps.toList.map fun c => .str ⟨#[c]⟩) := by
  show (if (Str.ofString "abcdefghijklmnopqrstuvwxyz").length ≤ 1000000 then some (ltrs.cps.toList.map fun c => D.str ⟨#[c]⟩) else none) = _
  exact if_pos (by decide +kernel)
def tryD (x : Str) : D → D
  | .str y => .str (cutS x none (some 19) ++ y)
  | d => d
theorem ok__law_begin {P : Program} {w : World} {K : PySem.W.Frag} {mg : Str → Option Value} {base : Heap} (T : Txt K mg w) : FnD P w K mg base 1 T.a__law_begin T.fd__law_begin ["_law_script"] sp__law_begin := by
  refine' fn_df T.F__law_begin sc__law_begin ?len (fun X W cdv A outer s H E hr eX tk po => ?body) ?read
  case body =>
    subst eX
    have hu64 := hr.units
    have hu65 := room65 hr
    have hu1 := room1 hr
    exact (dss_cons (x_setLcI (j := 1) (own := [("_law_cell", 2)]) rfl sc__law_begin.nd (di_iter (dx_slice (xv 0) do_none (do_some dx_int))) (by rfl) (fun _ _ _ _ _ => (g_nm (j := 2) sc__law_begin.nd)) (fun _ _ _ _ _ => pts_dnil) (fun _ _ _ _ _ => (x_callB c_abs T.n_abs bt_abs (da_cons (xv 2) da_nil))) (by decide))
  (dss_cons (ds_if (xt_cmp (o_eq hu64) (xv 1) (dx_lst da_nil))
  (dss_one (s_set (j := 1) (dx_lstI (da_cons dx_int da_nil)) sc__law_begin.nd))
  dss_nil)
  (dss_one (ds_ret (dx_lstI (da_cons (xv 1) (da_cons dx_int (da_cons dx_int da_nil))))))))
  case len =>
    intro ds S Q E h
    obtain ⟨ns, rfl, _⟩ := h
    rfl
  case read =>
    intro ds S Q E h
    obtain ⟨ns, rfl, h⟩ := h
    simp [startD]
    have e : cutD (ns.map D.int) none (some 63) = (ns.take (min 63 ns.length)).map D.int := by simp [cutD, HT.sIx, List.map_take]
    rw [e]
    refine comp_map (g := absD) (fun d hd => ?_) ?_
    · obtain ⟨i, _, rfl⟩ := List.mem_map.mp hd
      exact ⟨_, rfl, fun Q q => by simpa [wipeD, absD] using q⟩
    · generalize ec : (ns.take (min 63 ns.length)).map (fun i => if i < 0 then -i else i) = cells
      have e2 : List.map absD (List.map D.int (ns.take (min 63 ns.length))) = cells.map .int := by
        rw [← ec]
        simp [Function.comp_def, absD]
      have hlen : cells.length ≤ 63 := by
        rw [← ec]
        simp
        omega
      rw [e2]
      intro a ha
      rw [vw_refl updS_same]
      refine ⟨by rw [ok_lst60]; exact oks_ints _ _, ?_⟩
      refine ifs (fun h1 => ?_) (fun h1 => ?_)
      · intro a2 h2 a4 h4
        have n2 : a4 ≠ a2 := fun z => by rw [z, updS_same] at h4; cases h4
        have n1 : a2 ≠ a := fun z => by rw [z, updS_same] at h2; cases h2
        have n3 : a4 ≠ a := fun z => by rw [z, updS_ne (Ne.symm n1), updS_same] at h4; cases h4
        refine ⟨_, Less.refl _, h a4 a2 _ ⟨n2, [7], 0, 1, updS_same, by rw [updS_ne (Ne.symm n2), updS_same]; rfl, by simp, by simp, by decide, by decide⟩ fun b hb => ?_⟩
        have b1 : b ≠ a := fun z => hb (by rw [z]; exact ha)
        rw [updS_ne n1] at h2
        rw [updS_ne n2, updS_ne n3] at h4
        rw [updS_ne (fun z => hb (by rw [z]; exact h4)), updS_ne (fun z => hb (by rw [z]; exact h2)), updS_ne b1]
      · intro a2 h2
        have n1 : a2 ≠ a := fun z => by rw [z, updS_same] at h2; cases h2
        refine ⟨_, Less.refl _, h a2 a _ ⟨n1, cells, 0, 1, updS_same, by rw [updS_ne (Ne.symm n1), updS_same], fun z => h1 (by rw [z]; rfl), hlen, by decide, by decide⟩ fun b hb => ?_⟩
        rw [updS_ne n1] at h2
        rw [updS_ne (fun z => hb (by rw [z]; exact h2)), updS_ne (fun z => hb (by rw [z]; exact ha))]
theorem ok__law_take {P : Program} {w : World} {K : PySem.W.Frag} {mg : Str → Option Value} {base : Heap} (T : Txt K mg w) : FnD P w K mg base 1 T.a__law_take T.fd__law_take ["_law_draw", "_law_size"] sp__law_take := by
  refine' fn_d T.F__law_take sc__law_take ?len (fun X W cdv A outer s H E hr eX tk po => ?body) ?read
  case body =>
    subst eX
    have hu64 := hr.units
    have hu65 := room65 hr
    have hu1 := room1 hr
    exact (dss_cons (s_set (j := 2) (x_ix hu1 (xv 0) dx_int) sc__law_take.nd)
  (dss_cons (s_set (j := 3) (dx_op o_mod (x_ix hu1 (xv 0) dx_int) (x_callB c_len T.n_len bt_len (da_cons (xv 2) da_nil))) sc__law_take.nd)
  (dss_cons (s_set (j := 4) (x_ix hu1 (xv 2) (xv 3)) sc__law_take.nd)
  (dss_cons (ds_if (xt_cmp o_ge (xv 4) (dx_op o_pow dx_int dx_int))
  (dss_cons (s_sto hu1 (dx_op o_div (xv 4) (xv 1)) (xv 2) (xv 3))
  (dss_one (ds_ret (dx_op o_mod (xv 4) (xv 1)))))
  dss_nil)
  (dss_cons (s_sto hu1 (dx_op o_add (x_ix hu1 (xv 0) dx_int) dx_int) (xv 0) dx_int)
  (dss_cons (s_sto hu1 (dx_op o_mod (dx_op o_add (dx_op o_add (dx_op o_mul (x_ix hu1 (xv 0) dx_int) dx_int) (xv 4)) dx_int) dx_int) (xv 0) dx_int)
  (dss_one (ds_ret (dx_op o_mod (dx_op o_div (dx_op o_mod (dx_op o_mul (x_ix hu1 (xv 0) dx_int) (x_ix hu1 (xv 0) dx_int)) dx_int) dx_int) (xv 1))))))))))
  case len =>
    intro ds S Q E h
    obtain ⟨a, c, n, rfl, _⟩ := h
    rfl
  case read =>
    intro ds S Q E h
    obtain ⟨a, c, n, rfl, ⟨hac, cells, at_, m, d⟩, h0, hn, h⟩ := h
    simp [startD, retE, s_ix_ref d.sa, s_ix_ref d.sc, vw_refl d.sc]
    have hl : 0 < cells.length := List.length_pos_iff.mpr d.ne
    have hj1 : 0 ≤ at_ % (cells.length : Int) := Int.emod_nonneg _ (by omega)
    have hj2 : at_ % (cells.length : Int) < cells.length := Int.emod_lt_of_pos _ (by omega)
    obtain ⟨x, hx⟩ : ∃ x, cells[(at_ % (cells.length : Int)).toNat]? = some x := ⟨_, List.getElem?_eq_getElem (by omega)⟩
    have hx' : L2.atI (cells.map D.int) (at_ % (cells.length : Int)) = some (.int x) := by
      rw [atI_nat hj1, List.getElem?_map, hx]; rfl
    refine ⟨hl, _, hx', ⟨by decide, by decide, by decide⟩, True.intro, ?_⟩
    simp only [blK_bl]
    refine ifs (fun h1 => ?_) (fun h1 => ?_)
    · refine ⟨⟨h0, hn⟩, c, rfl, .inl ⟨_, _, (at_ % (cells.length : Int)).toNat, d.sc, rfl, by simp [L2.ixN, hj1, hj2], ?_⟩⟩
      refine ⟨h0, h (x % n) _ (Int.emod_nonneg _ (by omega)) (Int.emod_lt_of_pos _ h0) ⟨⟨hac, cells.set (at_ % (cells.length : Int)).toNat (x / n), at_, m, ⟨by rw [updS_ne hac]; exact d.sa, by rw [updS_same, List.map_set], by simp [d.ne], by simp [d.few], d.lo, d.hi⟩⟩, fun b h1 h2 => updS_ne h2⟩⟩
    · have lo := d.lo
      have hi := d.hi
      refine (s_ix_ref d.sa).mpr ⟨1, _, rfl, rfl, a, rfl, .inl ⟨_, 1, 1, d.sa, rfl, rfl, ?_⟩⟩
      refine (s_ix_ref updS_same).mpr ⟨2, _, rfl, rfl, .inr ⟨by decide, by decide⟩, ?_⟩
      refine ⟨(by decide : (0 : Int) < 2147483647), a, rfl, .inl ⟨_, 2, 2, updS_same, rfl, rfl, ?_⟩⟩
      rw [updS_updS]
      refine (s_ix_ref updS_same).mpr ⟨2, _, rfl, rfl, (s_ix_ref updS_same).mpr ⟨2, _, rfl, rfl, ?_⟩⟩
      have q1 : 0 ≤ (m * 48271 + x + 12345) % 2147483647 := Int.emod_nonneg _ (by decide)
      have q2 : (m * 48271 + x + 12345) % 2147483647 < 2147483647 := Int.emod_lt_of_pos _ (by decide)
      refine ⟨.inl ⟨by omega, by omega⟩, (by decide : (0 : Int) < 2147483629), ⟨by decide, by decide⟩, h0, h _ _ (Int.emod_nonneg _ (by omega)) (Int.emod_lt_of_pos _ h0) ⟨⟨hac, cells, at_ + 1, _, ⟨updS_same, by rw [updS_ne (Ne.symm hac)]; exact d.sc, d.ne, d.few, q1, q2⟩⟩, fun b h1 h2 => updS_ne h1⟩⟩
theorem ok__law_pick {P : Program} {w : World} {K : PySem.W.Frag} {mg : Str → Option Value} {base : Heap} (T : Txt K mg w) : FnD P w K mg base 2 T.a__law_pick T.fd__law_pick ["_law_draw", "_law_some"] sp__law_pick := by
  have G__law_take := ok__law_take (P := P) (base := base) T
  refine' fn_d T.F__law_pick sc__law_pick ?len (fun X W cdv A outer s H E hr eX tk po => ?body) ?read
  case body =>
    subst eX
    have hu64 := hr.units
    have hu65 := room65 hr
    have hu1 := room1 hr
    exact (dss_one (ds_ret (x_ix hu1 (xv 1) (dx_call (G__law_take.mono (by decide)) hr tk (by rfl) T.g__law_take T.F__law_take.kp T.b__law_take (da_cons (xv 0) (da_cons (x_callB c_len T.n_len bt_len (da_cons (xv 1) da_nil)) da_nil))))))
  case len =>
    intro ds S Q E h
    obtain ⟨a, c, x, rfl, _⟩ := h
    rfl
  case read =>
    intro ds S Q E h
    obtain ⟨a, c, x, rfl, hx, hd, h⟩ := h
    simp [startD, retE]
    cases x with
    | lst xs =>
      obtain ⟨h1, h2⟩ := hx
      have hl : 0 < xs.length := List.length_pos_iff.mpr h1
      refine ⟨_, rfl, a, c, _, rfl, hd, by omega, by omega, fun r S' r1 r2 st => ?_⟩
      have hr : r.toNat < xs.length := by omega
      exact ⟨r, xs[r.toNat], rfl, by rw [atI_nat r1]; exact List.getElem?_eq_getElem hr, h _ S' (List.getElem_mem hr) st⟩
    | str x =>
      obtain ⟨h1, h2⟩ := hx
      refine ⟨_, if_pos h2, a, c, _, rfl, hd, by omega, by omega, fun r S' r1 r2 st => ?_⟩
      have hr : r.toNat < x.cps.toList.length := by
        rw [Array.length_toList]
        have : r < (x.length : Nat) := r2
        have e : x.length = x.cps.size := rfl
        omega
      exact ⟨h2, r, x.cps.toList[r.toNat], rfl, by rw [atI_nat r1]; exact List.getElem?_eq_getElem hr, h _ S' ⟨_, List.getElem_mem hr, rfl⟩ st⟩
    | _ => exact hx.elim
theorem ok__law_digest {P : Program} {w : World} {K : PySem.W.Frag} {mg : Str → Option Value} {base : Heap} (T : Txt K mg w) (TB : LamX.TabB base mg T.cd__law_digest T.P__law_digest) : FnD P w K mg base 2 T.a__law_digest T.fd__law_digest ["_law_draw"] (sp__law_digest T.P__law_digest) := by
  obtain ⟨oc, od, kV, doc, pm, an, ct, osl, efd, lk, hcd⟩ := T.F__law_digest.ex
  have G__law_take := ok__law_take (P := P) (base := base) T
  rw [efd]
  rw [efd] at lk
  refine' fn_clo (name := "_law_asked") (st1 := (defBody s__law_digest).getD 0 (.Pass ⟨0, 0, 0, 0⟩)) (st2 := st_asked) (i := 3) (js := [1, 2]) (fr := frA) lk hcd sc__law_digest rfl rfl TB ?len rfl rfl (by decide) rfl (by decide) (by decide +kernel) (by decide +kernel) (by decide +kernel) rfl rfl (fun _ => rfl) (by decide) (by decide) (fun X W A outer s H E hr eX tk po => ?body) ?read
  case body =>
    subst eX
    exact (ds_asg (dx_tup (da_cons dx_dct0 (da_cons (dx_op o_add (dx_op o_pow dx_int dx_int) (dx_call (G__law_take.mono (by decide)) hr tk (by rfl) T.g__law_take T.F__law_take.kp T.b__law_take (da_cons (xv 0) (da_cons (dx_op o_pow dx_int dx_int) da_nil)))) da_nil))) (dg_tp rfl (dgs_cons (g_nm (j := 1) sc__law_digest.nd) (dgs_cons (g_nm (j := 2) sc__law_digest.nd) dgs_nil))))
  case len =>
    intro ds S Q E h
    obtain ⟨a, c, rfl, _⟩ := h
    rfl
  case read =>
    intro ds S Q E h
    obtain ⟨a, c, rfl, hd, ht, h⟩ := h
    simp [startD]
    intro d0 h0
    obtain ⟨na, nc⟩ := hd.none
    have n1 : d0 ≠ a := fun z => na (by rw [← z]; exact h0)
    have n2 : d0 ≠ c := fun z => nc (by rw [← z]; exact h0)
    have hd' : Draw (updS S d0 (.dct [])) a c := hd.of (updS_ne (Ne.symm n1)) (updS_ne (Ne.symm n2))
    refine ⟨⟨by decide, by decide, by decide⟩, ⟨by decide, by decide, by decide⟩, a, c, _, rfl, hd', by decide, by decide, fun r S' r1 r2 st => ?_⟩
    have kr : ∀ b o, S b = some (.raw o) → S' b = some (.raw o) := fun b o e => st.raw hd' (by rw [updS_ne (fun z => by rw [z, h0] at e; cases e)]; exact e)
    have ed : S' d0 = some (.dct []) := by rw [st.2 d0 n1 n2, updS_same]
    refine ⟨TabD.keep ht kr, [.ref d0, .int (1000000 + r)], rfl, fun m j hm => ?_, fun f F S2 kd clo tab keep => ?_⟩
    · match m, hm with
      | 0, hm =>
        cases hm
        exact ⟨_, _, rfl, rfl, fun K F v hv => den_ref hv⟩
      | 1, hm =>
        cases hm
        exact ⟨_, _, rfl, rfl, fun K F v hv => den_int hv⟩
      | m + 2, hm => cases hm
    · obtain ⟨pa, pc⟩ := st.1.none
      obtain ⟨ps, tP, _⟩ := TabD.keep ht kr
      have nP : ∀ b, S' b ≠ none → (∀ o, S' b ≠ some (.raw o)) → S2 b = S' b := fun b e1 e2 => keep b e1 (fun z => e2 (.tbl ps) (by rw [z]; exact tP))
      obtain ⟨_, cells, at_, m, dd⟩ := id st.1
      have hd2 : Draw S2 a c := st.1.of (nP a pa (fun o z => by rw [dd.sa] at z; cases z)) (nP c pc (fun o z => by rw [dd.sc] at z; cases z))
      refine h S2 f F d0 _ hd2 ⟨clo, kd, ?_, by omega, by omega⟩ tab fun b e1 e2 e3 e4 => ?_
      · rw [nP d0 (by rw [ed]; exact Option.some_ne_none _) (fun o z => by rw [ed] at z; cases z)]
        exact ed
      · have e5 : S' b = S b := by rw [st.2 b e2 e3, updS_ne (fun z => e1 (by rw [z]; exact h0))]
        rw [keep b (by rw [e5]; exact e1) e4, e5]
theorem ok__law_words {P : Program} {w : World} {K : PySem.W.Frag} {mg : Str → Option Value} {base : Heap} (T : Txt K mg w) : FnD P w K mg base 3 T.a__law_words T.fd__law_words ["_law_draw", "_law_many"] sp__law_words := by
  have G__law_pick := ok__law_pick (P := P) (base := base) T
  have G__law_take := ok__law_take (P := P) (base := base) T
  refine' fn_df T.F__law_words sc__law_words ?len (fun X W cdv A outer s H E hr eX tk po => ?body) ?read
  case body =>
    subst eX
    have hu64 := hr.units
    have hu65 := room65 hr
    have hu1 := room1 hr
    exact (dss_cons (ds_asg (dx_tup (da_cons dx_str (da_cons (dx_lstI da_nil) da_nil))) (dg_tp rfl (dgs_cons (g_nm (j := 2) sc__law_words.nd) (dgs_cons (g_nm (j := 3) sc__law_words.nd) dgs_nil))))
  (dss_cons (s_for po rfl (xi_rng1 T.n_range (da_cons (xv 1) da_nil)) (g_nm (j := 4) sc__law_words.nd)
  (dss_cons (s_set (j := 5) (x_ix hu1 (dx_lst (da_cons (dx_op o_add dx_int (dx_call (G__law_take.mono (by decide)) hr tk (by rfl) T.g__law_take T.F__law_take.kp T.b__law_take (da_cons (xv 0) (da_cons dx_int da_nil)))) (da_cons dx_int (da_cons dx_int da_nil)))) (dx_call (G__law_take.mono (by decide)) hr tk (by rfl) T.g__law_take T.F__law_take.kp T.b__law_take (da_cons (xv 0) (da_cons dx_int da_nil)))) sc__law_words.nd)
  (dss_cons (s_set (j := 6) (x_join dx_str (x_lc (own := [("_law_j", 8)]) rfl sc__law_words.nd (xi_rng1 T.n_range (da_cons (xv 5) da_nil)) (by rfl) (fun _ _ _ _ _ => (g_nm (j := 8) sc__law_words.nd)) (fun _ _ _ _ _ => pts_dnil) (fun _ _ _ _ _ => (dx_call (G__law_pick.mono (by decide)) hr takes0 (by rfl) T.g__law_pick T.F__law_pick.kp T.b__law_pick (da_cons (xv 0) (da_cons (xv 2) da_nil)))) (by decide))) sc__law_words.nd)
  (dss_cons (s_set (j := 7) (dx_op o_add (dx_lst (da_cons (xv 6) da_nil)) (x_lc (own := [("_law_sign", 9)]) rfl sc__law_words.nd (di_iter (xv 2)) (by rfl) (fun _ _ _ _ _ => (g_nm (j := 9) sc__law_words.nd)) (fun _ _ _ _ _ => pts_dnil) (fun _ _ _ _ _ => (dx_op o_add (dx_slice (xv 6) do_none (do_some dx_int)) (xv 9))) (by decide))) sc__law_words.nd)
  (dss_one (ds_expr (x_append (xv 3) (x_ix hu1 (x_lc (own := [("_law_one", 10)]) rfl sc__law_words.nd (di_iter (xv 7)) (by rfl) (fun _ _ _ _ _ => (g_nm (j := 10) sc__law_words.nd)) (fun _ _ _ _ _ => (pts_done (xt_cmp (o_notIn hu65) (xv 10) (xv 3)))) (fun _ _ _ _ _ => (xv 10)) (by decide)) dx_int))))))))
  (dss_one (ds_ret (dx_frz (xv 3))))))
  case len =>
    intro ds S Q E h
    obtain ⟨a, c, n, rfl, _⟩ := h
    rfl
  case read =>
    intro ds S Q E h
    obtain ⟨a, c, n, rfl, hd, h0, hn, h⟩ := h
    simp [startD, -forW_cons, -forW_nil]
    intro p hp
    obtain ⟨na, nc⟩ := hd.none
    have pa : p ≠ a := fun z => na (by rw [← z]; exact hp)
    have pc : p ≠ c := fun z => nc (by rw [← z]; exact hp)
    have hdp : Draw (updS S p (.lst [])) a c := hd.of (updS_ne (Ne.symm pa)) (updS_ne (Ne.symm pc))
    refine ⟨by omega, by omega, ?_⟩
    refine forW_ind (fun ds ρ S' => ∃ (ws : List Str) (v4 v5 v6 v7 v8 v9 v10 : Option D), ρ = [some (.ref a), some (.int n), some (.str (Str.ofString "abcdefghijklmnopqrstuvwxyz")), some (.ref p), v4, v5, v6, v7, v8, v9, v10] ∧ S' p = some (.lst (ws.map .str)) ∧ ws.length + ds.length = n.toNat ∧ (∀ x ∈ ws, isKey x = true) ∧ ws.Nodup ∧ Draw S' a c ∧
      (∀ b, b ≠ a → b ≠ c → b ≠ p → S' b = S b)) ?_ ?_ _ _ _ ⟨[], _, _, _, _, _, _, _, rfl, updS_same, by simp, by simp, by simp, hdp, fun b h1 h2 h3 => updS_ne h3⟩
    · rintro ρ S2 ⟨ws, v4, v5, v6, v7, v8, v9, v10, rfl, hp2, hl, hk, nd, hd2, k2⟩
      simp [-forW_cons, -forW_nil]
      have kr : ∀ b, b ≠ p → delS S2 p b = S2 b := fun b hb => delS_ne hb
      refine ⟨p, rfl, .inl ⟨_, hp2, delS S2 p, Less.refl _, h ws _ ⟨hd2.of (kr a (Ne.symm pa)) (kr c (Ne.symm pc)), fun b h1 h2 => ?_⟩ (by simp at hl; omega) hk nd⟩⟩
      by_cases e : b = p
      · subst e; rw [delS_same]; exact hp.symm
      · rw [kr b e]; exact k2 b h1 h2 e
    · rintro item ds ρ S2 ⟨ws, v4, v5, v6, v7, v8, v9, v10, rfl, hp2, hl, hk, nd, hd2, k2⟩ ih
      refine ⟨_, rfl, ?_⟩
      simp [-forW_cons, -forW_nil]
      refine ⟨a, c, 20, rfl, hd2, by decide, by decide, fun r S3 r0 r1 st3 => ?_⟩
      refine ⟨a, c, 3, rfl, st3.1, by decide, by decide, fun q S4 q0 q1 st4 => ?_⟩
      simp [-forW_cons, -forW_nil]
      obtain ⟨sz, hsz, s0, s1⟩ : ∃ sz, L2.atI [D.int (1 + r), .int 20, .int 1] q = some (.int sz) ∧ 1 ≤ sz ∧ sz ≤ 20 := by
        have hq : q = 0 ∨ q = 1 ∨ q = 2 := by omega
        rcases hq with rfl | rfl | rfl
        · exact ⟨_, rfl, by omega, by omega⟩
        · exact ⟨_, rfl, by decide, by decide⟩
        · exact ⟨_, rfl, by decide, by decide⟩
      refine ⟨_, hsz, rfl, ?_⟩
      refine ⟨sz, rfl, by omega, by omega, ?_⟩
      have pk : ∀ {Sa Sb : IS}, Step Sa Sb a c → Sb p = Sa p := fun st => st.2 p pa pc
      have hp4 : S4 p = some (.lst (ws.map .str)) := by rw [pk st4, pk st3]; exact hp2
      have k4 : ∀ b, b ≠ a → b ≠ c → b ≠ p → S4 b = S b := fun b h1 h2 h3 => by rw [st4.2 b h1 h2, st3.2 b h1 h2]; exact k2 b h1 h2 h3
      refine comp_inv (fun S' => Draw S' a c ∧ S' p = some (.lst (ws.map .str)) ∧ (∀ b, b ≠ a → b ≠ c → b ≠ p → S' b = S b)) (fun y => ∃ ch, y = .str ⟨#[ch]⟩ ∧ isLtr ch = true) (fun di hdi => ⟨_, rfl, fun S5 Q5 ⟨i1, i2, i3⟩ k => ?_⟩) ⟨st4.1, hp4, k4⟩ (by simp) (fun ys S5 ⟨i1, i2, i3⟩ hys hlen => ?_)
      · simp [wipeD, -forW_cons, -forW_nil]
        refine ⟨a, c, _, rfl, ⟨by decide +kernel, by decide +kernel⟩, i1, fun y S6 hy st6 => ?_⟩
        obtain ⟨ch, hc, rfl⟩ := hy
        exact k _ S6 ⟨st6.1, by rw [pk st6]; exact i2, fun b h1 h2 h3 => by rw [st6.2 b h1 h2]; exact i3 b h1 h2 h3⟩ ⟨ch, rfl, decide_eq_true hc⟩
      · obtain ⟨cs, rfl, hcs⟩ : ∃ cs : List Nat, ys = cs.map (fun ch => D.str ⟨#[ch]⟩) ∧ ∀ ch ∈ cs, isLtr ch = true := by
          clear hlen
          induction ys with
          | nil => exact ⟨[], rfl, by simp⟩
          | cons y ys ihy =>
            obtain ⟨ch, rfl, hc⟩ := hys y (by simp)
            obtain ⟨cs, rfl, hcs⟩ := ihy fun z hz => hys z (by simp [hz])
            exact ⟨ch :: cs, rfl, fun z hz => (List.mem_cons.mp hz).elim (fun e => by rw [e]; exact hc) (hcs z)⟩
        have hcl : cs.length = sz.toNat := by simpa using hlen
        generalize ew : Txt.join (Str.ofString "") (cs.map fun c => (⟨#[c]⟩ : Str)) = word
        have ewl : word.cps.toList = cs := by rw [← ew]; exact join_chars cs
        have hkw : isKey word = true := key_l (by rw [ewl]; omega) (by rw [ewl]; omega) (by rw [ewl]; exact hcs)
        have hwl := key_len hkw
        refine ⟨_, _, cs.map (fun c => (⟨#[c]⟩ : Str)), rfl, rfl, by simp [Function.comp_def], ?_, ?_⟩
        · have e1 : ((cs.map fun c => (⟨#[c]⟩ : Str)).map (·.length)).sum = cs.length := by
            clear hys hlen hcs hcl ew ewl
            induction cs with
            | nil => rfl
            | cons c cs ihc => 
              rw [List.map_cons, List.map_cons, List.sum_cons, ihc]
              show 1 + cs.length = cs.length + 1
              omega
          rw [e1, len_empty]
          omega
        · rw [ew]
          simp only [items_ltrs, Option.some.injEq, exists_eq_left', List.set_cons_zero, List.set_cons_succ]
          refine comp_map (g := tryD word) (fun d hd => ?_) ?_
          · obtain ⟨ch, _, rfl⟩ := List.mem_map.mp hd
            exact ⟨_, rfl, fun Q q => by
              simp [wipeD]
              refine ⟨by omega, ?_, q⟩
              have e19 : (cutS word none (some 19)).length ≤ 20 := by
                rw [len_l, cut_l, List.length_take]
                rw [len_l] at hwl
                omega
              show (cutS word none (some 19)).length + 1 ≤ 1000000
              omega⟩
          · have eT : (D.str word :: List.map (tryD word) (List.map (fun c => D.str ⟨#[c]⟩) ltrs.cps.toList)) = (tries word).map .str := by
              unfold tries
              rw [List.map_cons, List.map_map, List.map_map]
              rfl
            simp at hl
            refine ⟨by rw [List.length_map, List.length_map, ltrs_len]; decide, by unfold tyD; rw [vw_refl i2], ?_⟩
            rw [eT]
            refine comp_pure (p := newD ws) (g := id) (fun d hd => ?_) (fun d hd hn ρ' e Q q => ?_) ?_
            · obtain ⟨y, hy, rfl⟩ := List.mem_map.mp hd
              refine ⟨_, rfl, fun Qb q => ?_⟩
              simp [wipeD]
              unfold rdNotIn rdInG
              rw [vw_refl i2]
              refine ⟨by simp [(okS_key (tries_key hkw y hy)).1], oks_keys hk, ?_⟩
              rw [any_mem]
              simpa [newD] using q
            · cases e
              simpa [wipeD] using q
            · simp only [List.map_id, List.nil_append]
              obtain ⟨y, hy, hyn⟩ := tries_new (x := word) (ws := ws) (by omega)
              have hmem : D.str y ∈ ((tries word).map D.str).filter (newD ws) := List.mem_filter.mpr ⟨List.mem_map.mpr ⟨y, hy, rfl⟩, by simp [newD, hyn]⟩
              cases hL : ((tries word).map D.str).filter (newD ws) with
              | nil => rw [hL] at hmem; cases hmem
              | cons z zs =>
                have hz : z ∈ ((tries word).map D.str).filter (newD ws) := by rw [hL]; simp
                obtain ⟨hz1, hz2⟩ := List.mem_filter.mp hz
                obtain ⟨w', hw', rfl⟩ := List.mem_map.mp hz1
                have hwn : w' ∉ ws := by simpa [newD] using hz2
                refine ⟨_, rfl, p, _, _, rfl, rfl, i2, by simp; omega, ?_⟩
                refine ih _ _ ⟨ws ++ [w'], _, _, _, _, _, _, _, rfl, by rw [updS_same]; simp, by simp; omega, fun x hx => ?_, ?_, i1.of (updS_ne (Ne.symm pa)) (updS_ne (Ne.symm pc)), fun b h1 h2 h3 => by rw [updS_ne h3]; exact i3 b h1 h2 h3⟩
                · rcases List.mem_append.mp hx with z | z
                  · exact hk x z
                  · rw [List.mem_singleton.mp z]; exact tries_key hkw w' hw'
                · refine List.nodup_append.mpr ⟨nd, by simp, fun x hx y hy => ?_⟩
                  rw [List.mem_singleton.mp hy]
                  exact fun e => hwn (by rw [← e]; exact hx)
theorem ok__law_pool {P : Program} {w : World} {K : PySem.W.Frag} {mg : Str → Option Value} {base : Heap} (T : Txt K mg w) : FnD P w K mg base 3 T.a__law_pool T.fd__law_pool ["_law_draw", "_law_dig", "_law_secrets"] sp__law_pool := by
  have G__law_take := ok__law_take (P := P) (base := base) T
  have G__law_pick := ok__law_pick (P := P) (base := base) T
  refine' fn_df T.F__law_pool sc__law_pool ?len (fun X W cdv A outer s H E hr eX tk po => ?body) ?read
  case body =>
    subst eX
    have hu64 := hr.units
    have hu65 := room65 hr
    have hu1 := room1 hr
    exact (dss_cons (s_par (j := 3) (k := 4) rfl sc__law_pool.nd (da_cons (dx_lstI da_nil) (da_cons dx_int da_nil)))
  (dss_cons (s_for po rfl (xi_rng1 T.n_range (da_cons (dx_call (G__law_take.mono (by decide)) hr tk (by rfl) T.g__law_take T.F__law_take.kp T.b__law_take (da_cons (xv 0) (da_cons dx_int da_nil))) da_nil)) (g_nm (j := 5) sc__law_pool.nd)
  (dss_cons (s_set (j := 4) (dx_op o_add (dx_op o_add (xv 4) dx_int) (dx_call (G__law_take.mono (by decide)) hr tk (by rfl) T.g__law_take T.F__law_take.kp T.b__law_take (da_cons (xv 0) (da_cons dx_int da_nil)))) sc__law_pool.nd)
  (dss_cons (s_set (j := 6) (dx_call (G__law_pick.mono (by decide)) hr tk (by rfl) T.g__law_pick T.F__law_pick.kp T.b__law_pick (da_cons (xv 0) (da_cons (dx_lst (da_cons (dx_callV (i := 1) (nok_asked T) hr (by decide) (da_cons (dx_op o_add dx_str (dx_call (G__law_pick.mono (by decide)) hr tk (by rfl) T.g__law_pick T.F__law_pick.kp T.b__law_pick (da_cons (xv 0) (da_cons (xv 2) da_nil)))) da_nil)) (da_cons (dx_call (G__law_take.mono (by decide)) hr tk (by rfl) T.g__law_take T.F__law_take.kp T.b__law_take (da_cons (xv 0) (da_cons dx_int da_nil))) da_nil))) da_nil))) sc__law_pool.nd)
  (dss_one (ds_expr (x_append (xv 3) (dx_tup (da_cons (xv 4) (da_cons (dx_call (G__law_take.mono (by decide)) hr tk (by rfl) T.g__law_take T.F__law_take.kp T.b__law_take (da_cons (xv 0) (da_cons dx_int da_nil))) (da_cons (dx_op o_add dx_int (dx_call (G__law_take.mono (by decide)) hr tk (by rfl) T.g__law_take T.F__law_take.kp T.b__law_take (da_cons (xv 0) (da_cons dx_int da_nil)))) (da_cons (xv 6) (da_cons (dx_call (G__law_take.mono (by decide)) hr tk (by rfl) T.g__law_take T.F__law_take.kp T.b__law_take (da_cons (xv 0) (da_cons dx_int da_nil))) da_nil))))))))))))
  (dss_cons (x_setLc (j := 7) (own := [("_law_k", 5)]) rfl sc__law_pool.nd (xi_rng1 T.n_range (da_cons dx_int da_nil)) (by rfl) (fun _ _ _ _ _ => (g_nm (j := 5) sc__law_pool.nd)) (fun _ _ _ _ _ => pts_dnil) (fun _ _ _ _ _ => (dx_call (G__law_pick.mono (by decide)) hr takes0 (by rfl) T.g__law_pick T.F__law_pick.kp T.b__law_pick (da_cons (xv 0) (da_cons (dx_lst (da_cons dx_int (da_cons (dx_call (G__law_take.mono (by decide)) hr takes0 (by rfl) T.g__law_take T.F__law_take.kp T.b__law_take (da_cons (xv 0) (da_cons dx_int da_nil))) (da_cons (dx_call (G__law_take.mono (by decide)) hr takes0 (by rfl) T.g__law_take T.F__law_take.kp T.b__law_take (da_cons (xv 0) (da_cons dx_int da_nil))) (da_cons (dx_op o_pow dx_int dx_int) da_nil))))) da_nil)))) (by decide))
  (dss_one (ds_ret (dx_tup (da_cons dx_str (da_cons (dx_op o_add dx_int (dx_call (G__law_take.mono (by decide)) hr tk (by rfl) T.g__law_take T.F__law_take.kp T.b__law_take (da_cons (xv 0) (da_cons dx_int da_nil)))) (da_cons (dx_call (G__law_take.mono (by decide)) hr tk (by rfl) T.g__law_take T.F__law_take.kp T.b__law_take (da_cons (xv 0) (da_cons dx_int da_nil))) (da_cons (x_ix hu1 (xv 7) dx_int) (da_cons (x_ix hu1 (xv 7) dx_int) (da_cons (x_callTy c_tuple T.n_tuple bt_tuple (da_cons (xv 3) da_nil)) da_nil))))))))))))
  case len =>
    intro ds S Q E h
    obtain ⟨a, c, f, F, d, step, kds, ws, rfl, _⟩ := h
    rfl
  case read =>
    intro ds S Q E h
    obtain ⟨a, c, f, F, d, step, kds, ws, rfl, hd, D0, hv, hk, hne, hl, hw, h⟩ := h
    simp [startD, -forW_cons, -forW_nil]
    intro p hp
    obtain ⟨na, nc⟩ := hd.none
    have pa : p ≠ a := fun z => na (by rw [← z]; exact hp)
    have pc : p ≠ c := fun z => nc (by rw [← z]; exact hp)
    have pd : p ≠ d := fun z => by rw [z, D0.at_] at hp; cases hp
    have dac := hd.ne_dct D0.at_
    have hdp : Draw (updS S p (.lst [])) a c := hd.of (updS_ne (Ne.symm pa)) (updS_ne (Ne.symm pc))
    have Dp : Dig (updS S p (.lst [])) f F d step kds := D0.keep (fun b o e => by rw [updS_ne (fun z => by rw [z, hp] at e; cases e)]; exact e) (by rw [updS_ne (Ne.symm pd)]; exact D0.at_)
    refine ⟨_, _, ⟨rfl, rfl⟩, ?_⟩
    refine ⟨a, c, 5, rfl, hdp, by decide, by decide, fun n S1 n0 n5 st1 => ⟨n, rfl, by omega, by omega, ?_⟩⟩
    refine forW_ind (fun ds ρ S' => ∃ (l : List Pr) (last : Int) (v5 v6 v7 : Option D) (kds' : List (Key × D)), ρ = [some (.ref a), some (.ref f), some (.lst (ws.map .str)), some (.ref p), some (.int last), v5, v6, v7] ∧ S' p = some (.lst (l.map Pr.d)) ∧ (l.length + ds.length ≤ 4 ∧ kds'.length + ds.length ≤ kds.length + 4) ∧
      ((∀ q ∈ l, isPr q = true ∧ q.mark ≤ last) ∧ rising l = true ∧ 0 ≤ last) ∧ Draw S' a c ∧ Dig S' f F d step kds' ∧ VOk kds' ∧ (∀ k v, kget kds k = some v → kget kds' k = some v) ∧ (∀ b, b ≠ a → b ≠ c → b ≠ d → b ≠ p → S' b = S b)) ?_ ?_ _ _ _
      ⟨[], 0, _, _, _, kds, rfl, by rw [st1.2 p pa pc, updS_same]; rfl, ⟨by simp; omega, by simp; omega⟩, ⟨by simp, rfl, by decide⟩, st1.1, Dp.step hdp st1, hv, fun _ _ e => e, fun b h1 h2 h3 h4 => by rw [st1.2 b h1 h2, updS_ne h4]⟩
    · rintro ρ S2 ⟨l, last, v5, v6, v7, kds2, rfl, hp2, ⟨c1, c2⟩, ⟨g1, g2, g3⟩, hd2, D2, hv2, ex2, k2⟩
      simp [-forW_cons, -forW_nil]
      refine comp_inv (fun S' => Draw S' a c ∧ Dig S' f F d step kds2 ∧ S' p = some (.lst (l.map Pr.d)) ∧ (∀ b, b ≠ a → b ≠ c → b ≠ d → b ≠ p → S' b = S b)) (fun y => ∃ i, y = .int i ∧ 0 ≤ i ∧ i ≤ 10000000000) (fun di hdi => ⟨_, rfl, fun S3 Q3 ⟨i1, i2, i3, i4⟩ k => ?_⟩) ⟨hd2, D2, hp2, k2⟩ (by simp) (fun ys S3 ⟨i1, i2, i3, i4⟩ hys hlen => ?_)
      · simp [wipeD, -forW_cons, -forW_nil]
        refine ⟨a, c, 60, rfl, i1, by decide, by decide, fun r S4 r0 r1 st4 => ?_⟩
        refine ⟨a, c, 60, rfl, st4.1, by decide, by decide, fun r' S5 r0' r1' st5 => ?_⟩
        refine ⟨⟨by decide, by decide, by decide⟩, a, c, _, rfl, ⟨by simp, by simp⟩, st5.1, fun y S6 hy st6 => k y S6 ⟨st6.1, ((i2.step i1 st4).step st4.1 st5).step st5.1 st6, by rw [st6.2 p pa pc, st5.2 p pa pc, st4.2 p pa pc]; exact i3, fun b h1 h2 h3 h4 => by rw [st6.2 b h1 h2, st5.2 b h1 h2, st4.2 b h1 h2]; exact i4 b h1 h2 h3 h4⟩ ?_⟩
        have hy : y ∈ [D.int 0, .int r, .int r', .int ((10 : Int) ^ (10 : Int).toNat)] := hy
        simp at hy
        rcases hy with rfl | rfl | rfl | rfl
        · exact ⟨_, rfl, by decide, by decide⟩
        · exact ⟨_, rfl, r0, by omega⟩
        · exact ⟨_, rfl, r0', by omega⟩
        · exact ⟨_, rfl, by decide, by decide⟩
      · have hl2 : ys.length = 2 := by simpa using hlen
        obtain ⟨y0, y1, rfl⟩ : ∃ y0 y1, ys = [y0, y1] := by
          match ys, hl2 with
          | [y0, y1], _ => exact ⟨y0, y1, rfl⟩
        obtain ⟨x, rfl, x0, x1⟩ := hys y0 (by simp)
        obtain ⟨y, rfl, y0, y1⟩ := hys y1 (by simp)
        simp [-forW_cons, -forW_nil]
        refine ⟨a, c, 9, rfl, i1, by decide, by decide, fun r S4 r0 r1 st4 => ?_⟩
        refine ⟨a, c, 9, rfl, st4.1, by decide, by decide, fun r' S5 r0' r1' st5 => ?_⟩
        have hp5 : S5 p = some (.lst (l.map Pr.d)) := by rw [st5.2 p pa pc, st4.2 p pa pc]; exact i3
        have D5 := (i2.step i1 st4).step st4.1 st5
        refine ⟨_, _, rfl, by rw [vw_refl hp5]; rfl, ?_⟩
        have kr : ∀ b, b ≠ p → delS S5 p b = S5 b := fun b hb => delS_ne hb
        refine ⟨delS S5 p, fun b => ?_, ?_⟩
        · by_cases e : b = p
          · subst e; exact .inr delS_same
          · exact .inl (delS_ne e)
        · refine h ⟨1 + r, r', x, y, l⟩ (delS S5 p) kds2 (isSt_iff.mpr ⟨by show 1 ≤ 1 + r; omega, r0', arePr_iff.mpr ⟨by simpa using c1, fun q hq => (g1 q hq).1, g2⟩, ⟨x0, x1⟩, ⟨y0, y1⟩⟩) (st5.1.of (kr a (Ne.symm pa)) (kr c (Ne.symm pc)))
            (D5.keep (fun b o e => by rw [kr b (fun z => by rw [z, hp5] at e; cases e)]; exact e) (by rw [kr d (Ne.symm pd)]; exact D5.at_)) hv2 (by simpa using c2) ex2 fun b h1 h2 h3 => ?_
          by_cases e : b = p
          · subst e; rw [delS_same]; exact hp.symm
          · rw [kr b e, st5.2 b h1 h2, st4.2 b h1 h2]; exact i4 b h1 h2 h3 e
    · rintro item ds ρ S2 ⟨l, last, v5, v6, v7, kds2, rfl, hp2, ⟨c1, c2⟩, ⟨g1, g2, g3⟩, hd2, D2, hv2, ex2, k2⟩ ih
      refine ⟨_, rfl, ?_⟩
      simp [-forW_cons, -forW_nil]
      refine ⟨a, c, 2, rfl, hd2, by decide, by decide, fun r S3 r0 r1 st3 => ?_⟩
      simp [-forW_cons, -forW_nil]
      have D3 := D2.step hd2 st3
      refine ⟨f, F, _, rfl, D3.clo, D3.kd, ?_⟩
      simp [-forW_cons, -forW_nil]
      refine ⟨a, c, _, rfl, ⟨by simpa using hne, by simp; omega⟩, st3.1, fun dw S4 hdw st4 => ?_⟩
      obtain ⟨x, hx, rfl⟩ := List.mem_map.mp hdw
      have D4 := D3.step st3.1 st4
      have lx := key_len (hw x hx)
      simp [len_lock, -forW_cons, -forW_nil]
      simp at c1 c2
      refine ⟨by omega, dig_any D4 (by omega) hv2 fun i S5 kds5 D5 hv5 g5 i0 i1 l5 ex5 k5 Sx ex => ?_⟩
      rw [ex]
      have hd5 : Draw S5 a c := st4.1.of (k5 a (Ne.symm dac.1)) (k5 c (Ne.symm dac.2))
      refine ⟨a, c, 99, rfl, hd5, by decide, by decide, fun r2 S6 r20 r21 st6 => ?_⟩
      refine ⟨a, c, _, rfl, ⟨by simp, by simp⟩, st6.1, fun bolt S7 hb st7 => ?_⟩
      have hb : bolt ∈ [D.int i, .int r2] := hb
      obtain ⟨lo, rfl, lo0, lo1⟩ : ∃ lo, bolt = .int lo ∧ 0 ≤ lo ∧ lo ≤ 4000000000000 := by
        simp at hb
        rcases hb with rfl | rfl
        · exact ⟨_, rfl, i0, i1⟩
        · exact ⟨_, rfl, r20, by omega⟩
      have pk : ∀ {Sa Sb : IS}, Step Sa Sb a c → Sb p = Sa p := fun st => st.2 p pa pc
      have hp7 : S7 p = some (.lst (l.map Pr.d)) := by rw [pk st7, pk st6, k5 p pd, pk st4, pk st3]; exact hp2
      refine ⟨by unfold tyD; rw [vw_refl hp7], ?_⟩
      refine ⟨a, c, 2, rfl, st7.1, by decide, by decide, fun by_ S8 b0 b1 st8 => ?_⟩
      refine ⟨a, c, 30, rfl, st8.1, by decide, by decide, fun am S9 am0 am1 st9 => ?_⟩
      refine ⟨a, c, 40, rfl, st9.1, by decide, by decide, fun un S10 u0 u1 st10 => ?_⟩
      have hp10 : S10 p = some (.lst (l.map Pr.d)) := by rw [pk st10, pk st9, pk st8]; exact hp7
      have D10 := (((D5.step hd5 st6).step st6.1 st7).step st7.1 st8).step st8.1 st9 |>.step st9.1 st10
      refine ⟨p, _, _, rfl, rfl, hp10, by simp; omega, ?_⟩
      refine ih _ _ ⟨l ++ [⟨last + 1 + r, by_, 1 + am, lo, un⟩], last + 1 + r, _, _, _, kds5, rfl, by rw [updS_same]; simp [Pr.d], ⟨by simp; omega, by omega⟩, ⟨fun q hq => ?_, rising_snoc g2 fun q hq => ?_, by omega⟩, ?_, ?_, hv5, fun k v e => ex5 k v (ex2 k v e), fun b h1 h2 h3 h4 => ?_⟩
      · rcases List.mem_append.mp hq with z | z
        · have := (g1 q z).2
          exact ⟨(g1 q z).1, by omega⟩
        · rw [List.mem_singleton.mp z]
          exact ⟨isPr_iff.mpr ⟨by show 1 ≤ last + 1 + r; omega, ⟨b0, by show by_ ≤ 1; omega⟩, ⟨by show 1 ≤ 1 + am; omega, by show 1 + am ≤ 1000000000; omega⟩, ⟨lo0, by show lo ≤ 1000000000000000000000000000000; omega⟩, u0⟩, Int.le_refl _⟩
      · have := (g1 q hq).2
        show q.mark < last + 1 + r
        omega
      · exact st10.1.of (updS_ne (Ne.symm pa)) (updS_ne (Ne.symm pc))
      · exact D10.keep (fun b o e => by rw [updS_ne (fun z => by rw [z, hp10] at e; cases e)]; exact e) (by rw [updS_ne (Ne.symm pd)]; exact D10.at_)
      · rw [updS_ne h4, st10.2 b h1 h2, st9.2 b h1 h2, st8.2 b h1 h2, st7.2 b h1 h2, st6.2 b h1 h2, k5 b h3, st4.2 b h1 h2, st3.2 b h1 h2]
        exact k2 b h1 h2 h3 h4
theorem ok__law_next {P : Program} {w : World} {K : PySem.W.Frag} {mg : Str → Option Value} {base : Heap} (T : Txt K mg w) : FnD P w K mg base 9 T.a__law_next T.fd__law_next ["_law_state", "_law_step_here", "_law_dig"] sp__law_next := by
  have G_moved := ok_moved (P := P) (base := base) T
  refine' fn_d T.F__law_next sc__law_next ?len (fun X W cdv A outer s H E hr eX tk po => ?body) ?read
  case body =>
    subst eX
    have hu64 := hr.units
    have hu65 := room65 hr
    have hu1 := room1 hr
    exact (dss_cons (s_set (j := 3) dx_non sc__law_next.nd)
  (dss_cons (s_try (Kk := K) (by rfl) (by rfl) (by rfl) ⟨by rfl, by decide, Or.inl T.g_NoMove⟩ tk (fun W' pn xe tk' po' => (dss_one (s_set (j := 3) (dx_call (G_moved.mono (by decide)) hr tk' (by rfl) T.g_moved T.F_moved.kp T.b_moved (da_cons (xv 0) (da_cons (dx_op o_mod (x_ix hu1 (xv 0) dx_int) dx_int) (da_cons (xv 1) (da_cons (xv 2) da_nil))))) sc__law_next.nd)))
  (fun a pn => (dss_one (s_set (j := 3) dx_non sc__law_next.nd))))
  (dss_one (ds_ret (xv 3)))))
  case len =>
    intro ds S Q E h
    obtain ⟨s, m, f, lk, rfl, _⟩ := h
    rfl
  case read =>
    intro ds S Q E h
    obtain ⟨s, m, f, lk, rfl, hs, hm, hk, h⟩ := h
    have e2 : L2.atI [D.str "state", .int s.pool, .int s.turn, .int s.x, .int s.y, .tup (s.ps.map Pr.d)] 2 = some (.int s.turn) := rfl
    simp [startD, retE]
    refine ⟨2, _, rfl, e2, (by decide : (0 : Int) < 2), s, s.turn % 2, m, f, lk, rfl, hs, mod2 s.turn, hm, hk, fun s' e => ?_, fun e => ?_⟩
    · have e' : nextTo s m lk = some s' := e
      rw [e'] at h
      exact h
    · have e' : nextTo s m lk = none := e
      rw [e'] at h
      exact .inr ⟨T.m_NoMove, _, rfl, h⟩
theorem ok__law_given {P : Program} {w : World} {K : PySem.W.Frag} {mg : Str → Option Value} {base : Heap} (T : Txt K mg w) : FnD P w K mg base 10 T.a__law_given T.fd__law_given ["_law_draw", "_law_state", "_law_dig", "_law_secret"] sp__law_given := by
  have G__law_next := ok__law_next (P := P) (base := base) T
  have G__law_take := ok__law_take (P := P) (base := base) T
  have G_lock_of := ok_lock_of (P := P) (base := base) T
  refine' fn_d T.F__law_given sc__law_given ?len (fun X W cdv A outer s H E hr eX tk po => ?body) ?read
  case body =>
    subst eX
    have hu64 := hr.units
    have hu65 := room65 hr
    have hu1 := room1 hr
    exact (dss_cons (s_set (j := 4) (dx_op o_mod (x_ix hu1 (xv 1) dx_int) dx_int) sc__law_given.nd)
  (dss_cons (ds_if (PW.pt (dw_or (xt_cmp (o_eq hu64) (x_ix hu1 (xv 1) (dx_op o_add dx_int (xv 4))) dx_int) (dw_or1 (xt_cmp (o_eq hu64) (x_callB c_len T.n_len bt_len (da_cons (x_ix hu1 (xv 1) dx_int) da_nil)) dx_int))))
  (dss_one (ds_ret dx_non))
  dss_nil)
  (dss_cons (s_set (j := 5) (dx_op o_add (dx_op o_add (x_callB (c_max1 rfl) T.n_max bt_max (da_cons (dx_op o_add (x_lc (own := [("_law_one", 8)]) rfl sc__law_given.nd (di_iter (x_ix hu1 (xv 1) dx_int)) (by rfl) (fun _ _ _ _ _ => (g_nm (j := 8) sc__law_given.nd)) (fun _ _ _ _ _ => pts_dnil) (fun _ _ _ _ _ => (x_ix hu1 (xv 8) dx_int)) (by decide)) (dx_lst (da_cons dx_int da_nil))) da_nil)) dx_int) (dx_call (G__law_take.mono (by decide)) hr tk (by rfl) T.g__law_take T.F__law_take.kp T.b__law_take (da_cons (xv 0) (da_cons dx_int da_nil)))) sc__law_given.nd)
  (dss_cons (s_set (j := 6) (dx_op o_add dx_int (dx_call (G__law_take.mono (by decide)) hr tk (by rfl) T.g__law_take T.F__law_take.kp T.b__law_take (da_cons (xv 0) (da_cons (x_callB (c_min2 rfl) T.n_min bt_min (da_cons (x_ix hu1 (xv 1) (dx_op o_add dx_int (xv 4))) (da_cons (dx_op o_pow dx_int dx_int) da_nil))) da_nil)))) sc__law_given.nd)
  (dss_cons (s_set (j := 7) (dx_tup (da_cons dx_str (da_cons (xv 5) (da_cons (xv 6) (da_cons (dx_call (G_lock_of.mono (by decide)) hr tk (by rfl) T.g_lock_of T.F_lock_of.kp T.b_lock_of (da_cons (xv 3) (da_cons (xv 2) da_nil))) (da_cons (dx_call (G__law_take.mono (by decide)) hr tk (by rfl) T.g__law_take T.F__law_take.kp T.b__law_take (da_cons (xv 0) (da_cons dx_int da_nil))) da_nil)))))) sc__law_given.nd)
  (dss_one (ds_ret (dx_tup (da_cons (dx_call (G__law_next.mono (by decide)) hr tk (by rfl) T.g__law_next T.F__law_next.kp T.b__law_next (da_cons (xv 1) (da_cons (xv 7) (da_cons (xv 2) da_nil)))) (da_cons (xv 7) da_nil))))))))))
  case len =>
    intro ds S Q E h
    obtain ⟨a, c, s, f, w0, w1, lk, rfl, _⟩ := h
    rfl
  case read =>
    intro ds S Q E h
    obtain ⟨a, c, s, f, w0, w1, lk, rfl, hd, hs, ⟨hk0, hk1, F, d, step, kds, Dg, hlt, g0, g1⟩, l1, l2, h1, h2⟩ := h
    obtain ⟨_, _, _, hx, hy⟩ := isSt_iff.mp hs
    have hl4 := isSt_len hs
    have hh : 0 ≤ s.had (s.turn % 2) ∧ s.had (s.turn % 2) ≤ 10000000000 := by
      unfold Sta.had
      split <;> omega
    simp [startD, retE]
    refine ⟨2, _, rfl, rfl, (by decide : (0 : Int) < 2), ?_⟩
    simp only [s_add_i]
    refine ix_had (mod2 _) ⟨rfl, ?_⟩
    refine ifs (fun e => h1 (.inl (by simpa using e))) (fun e => ?_)
    have hpos : 0 < s.had (s.turn % 2) := by
      have : s.had (s.turn % 2) ≠ 0 := by simpa using e
      omega
    refine ⟨5, _, rfl, rfl, _, rfl, ?_⟩
    refine ifs (fun e => h1 (.inr (by simp at e; omega))) (fun e => ?_)
    have few : s.ps.length ≤ 3 := by
      simp at e
      omega
    refine ⟨5, _, rfl, rfl, _, rfl, ?_⟩
    refine comp_map (g := markD) (fun d hd => ?_) ?_
    · obtain ⟨p, _, rfl⟩ := List.mem_map.mp hd
      exact ⟨_, rfl, fun Q q => by simpa [wipeD, Pr.d, markD] using q⟩
    · refine ⟨by simp; omega, _, s.ps.map (·.mark) ++ [0], rfl, ?_, by simp, fun m hm1 hm2 => ?_⟩
      · show D.lst _ = _
        simp [Function.comp_def, markD, Pr.d]
      · have m0 : 0 ≤ m := hm2 0 (by simp)
        have mt : ∀ q ∈ s.ps, q.mark ≤ m := fun q hq => hm2 q.mark (List.mem_append_left _ (List.mem_map.mpr ⟨q, hq, rfl⟩))
        refine ⟨a, c, 3, rfl, hd, by decide, by decide, fun r S1 r1 r2 st1 => ?_⟩
        simp only [s_add_i]
        refine ix_had (mod2 _) ⟨⟨by decide, by decide, by decide⟩, _, _, rfl, ?_⟩
        refine ⟨a, c, _, rfl, st1.1, ?_, ?_, fun r' S2 r1' r2' st2 => ?_⟩
        · split <;> omega
        · split <;> omega
        · have D2 := (Dg.step hd st1).step st1.1 st2
          refine ⟨w0, f, F, d, step, kds, rfl, hk0, D2, hlt, fun v ev => ?_, fun ev => ?_⟩
          · rw [g0] at ev
            cases ev
            refine ⟨a, c, 40, rfl, st2.1, by decide, by decide, fun un S3 u1 u2 st3 => ?_⟩
            have hr : r' < (if (10 : Int) ^ 9 < s.had (s.turn % 2) then (10 : Int) ^ 9 else s.had (s.turn % 2)) := r2'
            have gv : Gv s w0 lk (m + 1 + r) (1 + r') un := by
              refine ⟨hs, few, by omega, fun q hq => by have := mt q hq; omega, by omega, ?_, ?_, l1, l2, u1⟩
              · split at hr <;> omega
              · split at hr <;> omega
            refine ⟨s, .give (m + 1 + r) (1 + r') (lk w0) un, f, lk, rfl, hs, True.intro, True.intro, ?_⟩
            have e3 : nextTo s (.give (m + 1 + r) (1 + r') (lk w0) un) lk = some _ := gv.given
            rw [e3]
            exact h2 S3 _ _ _ ((st1.trans st2).trans st3) gv
          · rw [g0] at ev
            cases ev
theorem ok__law_over {P : Program} {w : World} {K : PySem.W.Frag} {mg : Str → Option Value} {base : Heap} (T : Txt K mg w) : FnD P w K mg base 10 T.a__law_over T.fd__law_over ["_law_later", "_law_mark", "_law_dig", "_law_words_here"] sp__law_over := by
  have G__law_next := ok__law_next (P := P) (base := base) T
  refine' fn_d T.F__law_over sc__law_over ?len (fun X W cdv A outer s H E hr eX tk po => ?body) ?read
  case body =>
    subst eX
    have hu64 := hr.units
    have hu65 := room65 hr
    have hu1 := room1 hr
    exact (dss_cons (s_for po rfl (di_iter (dx_lst (da_cons (xv 0) (da_cons (dx_call (G__law_next.mono (by decide)) hr tk (by rfl) T.g__law_next T.F__law_next.kp T.b__law_next (da_cons (xv 0) (da_cons (dx_tup (da_cons dx_str da_nil)) (da_cons (xv 2) da_nil)))) da_nil)))) (g_nm (j := 4) sc__law_over.nd)
  (dss_one (s_for po rfl (di_iter (dx_op o_add (dx_lst (da_cons (dx_tup (da_cons dx_str (da_cons (xv 1) da_nil))) (da_cons (dx_tup (da_cons dx_str (da_cons (xv 1) da_nil))) da_nil))) (x_lc (own := [("_law_word", 6)]) rfl sc__law_over.nd (di_iter (xv 3)) (by rfl) (fun _ _ _ _ _ => (g_nm (j := 6) sc__law_over.nd)) (fun _ _ _ _ _ => pts_dnil) (fun _ _ _ _ _ => (dx_tup (da_cons dx_str (da_cons (xv 1) (da_cons (xv 6) da_nil))))) (by decide)))) (g_nm (j := 5) sc__law_over.nd)
  (dss_one (ds_if (xt_cmp o_notN (dx_call (G__law_next.mono (by decide)) hr tk (by rfl) T.g__law_next T.F__law_next.kp T.b__law_next (da_cons (xv 4) (da_cons (xv 5) (da_cons (xv 2) da_nil)))) dx_non)
  (dss_one (ds_ret dx_bl))
  dss_nil)))))
  (dss_one (ds_ret dx_bl)))
  case len =>
    intro ds S Q E h
    obtain ⟨s, mark, f, w0, w1, lk, rfl, _⟩ := h
    rfl
  case read =>
    intro ds S Q E h
    obtain ⟨s, mark, f, w0, w1, lk, rfl, hs, hp, hb, h⟩ := h
    simp [startD, retE, -forW_cons, -forW_nil]
    refine ⟨s, .pass, f, lk, rfl, hs, True.intro, True.intro, ?_⟩
    have e1 : nextTo s .pass lk = some ⟨s.pool, s.turn + 1, s.x, s.y, s.ps⟩ := pass_ok hs
    rw [e1]
    simp [-forW_cons, -forW_nil]
    refine ⟨_, rfl, ?_⟩
    simp [-forW_cons, -forW_nil]
    refine comp_map (g := claimD mark) (fun d hd => ⟨_, rfl, fun Q q => by simpa [wipeD, claimD] using q⟩) ⟨by simp, ?_⟩
    refine none_loop (t := s) (f := f) (lk := lk) (.back mark) [.late mark, .claim mark w0, .claim mark w1] rfl rfl (by decide) (by decide) (by simp) hs (fun v => ?_) (over_all hb hp)
    refine ⟨_, rfl, ?_⟩
    simp [-forW_cons, -forW_nil]
    refine comp_map (g := claimD mark) (fun d hd => ⟨_, rfl, fun Q q => by simpa [wipeD, claimD] using q⟩) ⟨by simp, ?_⟩
    refine none_loop (t := ⟨s.pool, s.turn + 1, s.x, s.y, s.ps⟩) (f := f) (lk := lk) (.back mark) [.late mark, .claim mark w0, .claim mark w1] rfl rfl (by decide) (by decide) (by simp) (passOk hs) (fun v => ?_) (over_all hb hp)
    exact h
theorem ok__law_right {P : Program} {w : World} {K : PySem.W.Frag} {mg : Str → Option Value} {base : Heap} (T : Txt K mg w) : FnD P w K mg base 11 T.a__law_right T.fd__law_right ["_law_state", "_law_later", "_law_step_here", "_law_dig", "_law_words_here"] sp__law_right := by
  have G__law_over := ok__law_over (P := P) (base := base) T
  have G__law_next := ok__law_next (P := P) (base := base) T
  refine' fn_d T.F__law_right sc__law_right ?len (fun X W cdv A outer s H E hr eX tk po => ?body) ?read
  case body =>
    subst eX
    have hu64 := hr.units
    have hu65 := room65 hr
    have hu1 := room1 hr
    exact (dss_cons (s_par3 (j := 5) (k := 6) (l := 7) rfl sc__law_right.nd (da_cons (dx_op o_mod (x_ix hu1 (xv 0) dx_int) dx_int) (da_cons (x_ix hu1 (xv 2) dx_int) (da_cons (x_ix hu1 (xv 2) dx_int) da_nil))))
  (dss_cons (s_set (j := 8) (dx_call (G__law_next.mono (by decide)) hr tk (by rfl) T.g__law_next T.F__law_next.kp T.b__law_next (da_cons (xv 1) (da_cons (dx_tup (da_cons dx_str (da_cons (xv 6) da_nil))) (da_cons (xv 3) da_nil)))) sc__law_right.nd)
  (dss_cons (ds_if (PW.pt (dw_or (xt_cmp o_isN (xv 8) dx_non) (dw_or (xt_cmp (o_ne hu64) (dx_slice (xv 8) (do_some dx_int) do_none) (dx_slice (xv 0) (do_some dx_int) do_none)) (dw_or1 (dt_not (dt_val (dx_call (G__law_over.mono (by decide)) hr tk (by rfl) T.g__law_over T.F__law_over.kp T.b__law_over (da_cons (xv 8) (da_cons (xv 6) (da_cons (xv 3) (da_cons (xv 4) da_nil)))))))))))
  (dss_one (ds_ret dx_bl))
  dss_nil)
  (dss_cons (s_set (j := 9) (dx_call (G__law_next.mono (by decide)) hr tk (by rfl) T.g__law_next T.F__law_next.kp T.b__law_next (da_cons (xv 1) (da_cons (dx_tup (da_cons dx_str (da_cons (xv 6) (da_cons (x_ix hu1 (xv 4) dx_int) da_nil)))) (da_cons (xv 3) da_nil)))) sc__law_right.nd)
  (dss_cons (s_set (j := 10) (dx_call (G__law_next.mono (by decide)) hr tk (by rfl) T.g__law_next T.F__law_next.kp T.b__law_next (da_cons (xv 0) (da_cons (dx_tup (da_cons dx_str (da_cons (xv 7) da_nil))) (da_cons (xv 3) da_nil)))) sc__law_right.nd)
  (dss_cons (ds_if (xt_cmp (o_ne hu64) (x_cmp o_isN (xv 9) dx_non) (x_cmp o_isN (xv 10) dx_non))
  (dss_one (ds_ret dx_bl))
  dss_nil)
  (dss_cons (ds_if (PW.pt (dw_and (xt_cmp o_notN (xv 9) dx_non) (dw_and1 (xt_cmp (o_ne hu64) (dx_slice (xv 9) (do_some dx_int) do_none) (dx_slice (xv 10) (do_some dx_int) do_none)))))
  (dss_one (ds_ret dx_bl))
  dss_nil)
  (dss_cons (ds_if (PW.pt (dw_and (xt_cmp o_notN (xv 9) dx_non) (dw_and1 (dt_not (dt_val (dx_call (G__law_over.mono (by decide)) hr tk (by rfl) T.g__law_over T.F__law_over.kp T.b__law_over (da_cons (xv 9) (da_cons (xv 6) (da_cons (xv 3) (da_cons (xv 4) da_nil))))))))))
  (dss_one (ds_ret dx_bl))
  dss_nil)
  (dss_cons (s_for po rfl (di_iter (dx_lst (da_cons (dx_tup (da_cons dx_str (da_cons (xv 6) (da_cons (x_ix hu1 (xv 4) dx_int) da_nil)))) (da_cons (dx_tup (da_cons dx_str (da_cons (xv 6) da_nil))) da_nil)))) (g_nm (j := 11) sc__law_right.nd)
  (dss_one (ds_if (xt_cmp o_notN (dx_call (G__law_next.mono (by decide)) hr tk (by rfl) T.g__law_next T.F__law_next.kp T.b__law_next (da_cons (xv 1) (da_cons (xv 11) (da_cons (xv 3) da_nil)))) dx_non)
  (dss_one (ds_ret dx_bl))
  dss_nil)))
  (dss_cons (s_set (j := 12) (dx_call (G__law_next.mono (by decide)) hr tk (by rfl) T.g__law_next T.F__law_next.kp T.b__law_next (da_cons (xv 1) (da_cons (dx_tup (da_cons dx_str da_nil)) (da_cons (xv 3) da_nil)))) sc__law_right.nd)
  (dss_cons (s_for po rfl (di_iter (dx_lst (da_cons (dx_tup (da_cons dx_str (da_cons (xv 6) (da_cons (x_ix hu1 (xv 4) dx_int) da_nil)))) (da_cons (dx_tup (da_cons dx_str (da_cons (xv 6) da_nil))) da_nil)))) (g_nm (j := 11) sc__law_right.nd)
  (dss_one (ds_if (xt_cmp o_notN (dx_call (G__law_next.mono (by decide)) hr tk (by rfl) T.g__law_next T.F__law_next.kp T.b__law_next (da_cons (xv 12) (da_cons (xv 11) (da_cons (xv 3) da_nil)))) dx_non)
  (dss_one (ds_ret dx_bl))
  dss_nil)))
  (dss_cons (s_set (j := 13) (dx_call (G__law_next.mono (by decide)) hr tk (by rfl) T.g__law_next T.F__law_next.kp T.b__law_next (da_cons (xv 12) (da_cons (dx_tup (da_cons dx_str (da_cons (xv 6) da_nil))) (da_cons (xv 3) da_nil)))) sc__law_right.nd)
  (dss_cons (ds_if (PW.pt (dw_or (xt_cmp o_isN (xv 13) dx_non) (dw_or (xt_cmp (o_ne hu64) (dx_slice (xv 13) (do_some dx_int) do_none) (dx_slice (xv 0) (do_some dx_int) do_none)) (dw_or1 (xt_cmp (o_ne hu64) (dx_op o_mod (x_ix hu1 (xv 12) dx_int) dx_int) (xv 5))))))
  (dss_one (ds_ret dx_bl))
  dss_nil)
  (dss_one (ds_ret (dx_call (G__law_over.mono (by decide)) hr tk (by rfl) T.g__law_over T.F__law_over.kp T.b__law_over (da_cons (xv 13) (da_cons (xv 6) (da_cons (xv 3) (da_cons (xv 4) da_nil))))))))))))))))))))
  case len =>
    intro ds S Q E h
    obtain ⟨s, mark, held, un, f, w0, w1, lk, rfl, _⟩ := h
    rfl
  case read =>
    intro ds S Q E h
    obtain ⟨s, mark, held, un, f, w0, w1, lk, rfl, g, hb, hne, h⟩ := h
    have hl := g.laterOk
    generalize eL : later s w0 lk mark held un = L at hl
    have eb := g.back
    have ec := g.claim hb.1
    have ep := g.pay
    have e1 := g.claim1 hne
    have e2 := g.late0
    have eoc := fun x => g.on_claim x
    have eob := g.on_back
    have eol := g.on_late
    rw [eL] at eb ec e1 e2 eoc eob eol
    simp [startD, retE, Mv.d, Sta.d, -forW_cons, -forW_nil]
    refine ⟨_, _, _, ⟨rfl, rfl, rfl⟩, ?_⟩
    refine ⟨L, .back mark, f, lk, rfl, hl, True.intro, True.intro, ?_⟩
    rw [show nextTo L (.back mark) lk = some (backTo' s) from eb]
    simp [optSta, backTo', Sta.d, cutD, HT.sIx, -forW_cons, -forW_nil]
    refine ⟨backTo' s, mark, f, w0, w1, lk, rfl, backOk g.st, prOf_none g.top, hb, ?_⟩
    show blK (D.bl true) _
    rw [blK_bl]
    refine ifs (fun _ => ?_) (fun z => (z rfl).elim)
    have e3 : (L.turn + 1) % 2 = s.turn % 2 := by
      rw [← eL, later_turn]
      omega
    have hn1 : ∀ m' ∈ [Mv.claim mark w1, .late mark], m'.fit ∧ LkOk S f lk m' ∧ nextTo L m' lk = none := fun m' hm => by
      simp at hm
      rcases hm with rfl | rfl
      · exact ⟨(hb.lk1 mark).1, (hb.lk1 mark).2, e1⟩
      · exact ⟨True.intro, True.intro, e2⟩
    have hn2 : ∀ m' ∈ [Mv.claim mark w0, .back mark], m'.fit ∧ LkOk S f lk m' ∧ nextTo (onTo L) m' lk = none := fun m' hm => by
      simp at hm
      rcases hm with rfl | rfl
      · exact ⟨(hb.lk0 mark).1, (hb.lk0 mark).2, eoc _⟩
      · exact ⟨True.intro, True.intro, eob⟩
    refine ⟨L, .claim mark w0, f, lk, rfl, hl, (hb.lk0 mark).1, (hb.lk0 mark).2, ?_⟩
    by_cases hf : fits s held = true
    · rw [if_pos hf] at ec ep
      rw [show nextTo L (.claim mark w0) lk = _ from ec]
      refine ⟨s, .pay held, f, lk, rfl, g.st, True.intro, True.intro, ?_⟩
      rw [show nextTo s (.pay held) lk = _ from ep]
      simp [optSta, Sta.d, cutD, HT.sIx, -forW_cons, -forW_nil]
      refine ⟨⟨s.pool, s.turn + 2, paidX s held, paidY s held, s.ps⟩, mark, f, w0, w1, lk, rfl, claimedOk hf, prOf_none g.top, hb, ?_⟩
      show blK (D.bl true) _
      rw [blK_bl]
      refine ifs (fun _ => ?_) (fun z => (z rfl).elim)
      refine none_loop (t := L) (f := f) (lk := lk) (.claim mark w1) [.late mark] rfl rfl (by decide) (by decide) (by simp) hl (fun v => ?_) hn1
      simp [-forW_cons, -forW_nil]
      refine ⟨L, .pass, f, lk, rfl, hl, True.intro, True.intro, ?_⟩
      rw [show nextTo L .pass lk = some (onTo L) from pass_ok hl]
      simp [optSta, -forW_cons, -forW_nil]
      refine none_loop (t := onTo L) (f := f) (lk := lk) (.claim mark w0) [.back mark] rfl rfl (by decide) (by decide) (by simp) (passOk hl) (fun v => ?_) hn2
      simp [-forW_cons, -forW_nil]
      refine ⟨onTo L, .late mark, f, lk, rfl, passOk hl, True.intro, True.intro, ?_⟩
      rw [show nextTo (onTo L) (.late mark) lk = some (lateTo s) from eol]
      simp [optSta, lateTo, onTo, Sta.d, cutD, HT.sIx, e3, -forW_cons, -forW_nil]
      exact ⟨lateTo s, mark, f, w0, w1, lk, rfl, lateOk g.st, prOf_none g.top, hb, h⟩
    · rw [if_neg hf] at ec ep
      rw [show nextTo L (.claim mark w0) lk = _ from ec]
      refine ⟨s, .pay held, f, lk, rfl, g.st, True.intro, True.intro, ?_⟩
      rw [show nextTo s (.pay held) lk = _ from ep]
      simp [optSta, Sta.d, cutD, HT.sIx, -forW_cons, -forW_nil]
      refine none_loop (t := L) (f := f) (lk := lk) (.claim mark w1) [.late mark] rfl rfl (by decide) (by decide) (by simp) hl (fun v => ?_) hn1
      simp [-forW_cons, -forW_nil]
      refine ⟨L, .pass, f, lk, rfl, hl, True.intro, True.intro, ?_⟩
      rw [show nextTo L .pass lk = some (onTo L) from pass_ok hl]
      simp [optSta, -forW_cons, -forW_nil]
      refine none_loop (t := onTo L) (f := f) (lk := lk) (.claim mark w0) [.back mark] rfl rfl (by decide) (by decide) (by simp) (passOk hl) (fun v => ?_) hn2
      simp [-forW_cons, -forW_nil]
      refine ⟨onTo L, .late mark, f, lk, rfl, passOk hl, True.intro, True.intro, ?_⟩
      rw [show nextTo (onTo L) (.late mark) lk = some (lateTo s) from eol]
      simp [optSta, lateTo, onTo, Sta.d, cutD, HT.sIx, e3, -forW_cons, -forW_nil]
      exact ⟨lateTo s, mark, f, w0, w1, lk, rfl, lateOk g.st, prOf_none g.top, hb, h⟩
theorem ok_law {P : Program} {w : World} {K : PySem.W.Frag} {mg : Str → Option Value} {base : Heap} (T : Txt K mg w) (TB : LamX.TabB base mg T.cd__law_digest T.P__law_digest) : FnD P w K mg base 12 T.a_law T.fd_law ["_law_script"] (sp_law T.P__law_digest) := by
  have G__law_next := ok__law_next (P := P) (base := base) T
  have G__law_right := ok__law_right (P := P) (base := base) T
  have G__law_given := ok__law_given (P := P) (base := base) T
  have G__law_pool := ok__law_pool (P := P) (base := base) T
  have G__law_words := ok__law_words (P := P) (base := base) T
  have G__law_digest := ok__law_digest (P := P) (base := base) T TB
  have G__law_begin := ok__law_begin (P := P) (base := base) T
  refine' fn_d T.F_law sc_law ?len (fun X W cdv A outer s H E hr eX tk po => ?body) ?read
  case body =>
    subst eX
    have hu64 := hr.units
    have hu65 := room65 hr
    have hu1 := room1 hr
    exact (dss_cons (s_set (j := 1) (dx_call (G__law_begin.mono (by decide)) hr tk (by rfl) T.g__law_begin T.F__law_begin.kp T.b__law_begin (da_cons (xv 0) da_nil)) sc_law.nd)
  (dss_cons (s_for po rfl (xi_rng1 T.n_range (da_cons (x_callB (c_max2 rfl) T.n_max bt_max (da_cons dx_int (da_cons (x_callB (c_min2 rfl) T.n_min bt_min (da_cons dx_int (da_cons (x_callB c_len T.n_len bt_len (da_cons (xv 0) da_nil)) da_nil))) da_nil))) da_nil)) (g_nm (j := 2) sc_law.nd)
  (dss_cons (s_par (j := 3) (k := 4) rfl sc_law.nd (da_cons (dx_call (G__law_digest.mono (by decide)) hr tk (by rfl) T.g__law_digest T.F__law_digest.kp T.b__law_digest (da_cons (xv 1) da_nil)) (da_cons (dx_call (G__law_words.mono (by decide)) hr tk (by rfl) T.g__law_words T.F__law_words.kp T.b__law_words (da_cons (xv 1) (da_cons dx_int da_nil))) da_nil)))
  (dss_cons (s_set (j := 5) (dx_call (G__law_pool.mono (by decide)) hr tk (by rfl) T.g__law_pool T.F__law_pool.kp T.b__law_pool (da_cons (xv 1) (da_cons (xv 3) (da_cons (dx_slice (xv 4) (do_some dx_int) do_none) da_nil)))) sc_law.nd)
  (dss_one (ds_if (xt_cmp (o_ne hu64) (dx_callV (i := 3) (nok_asked T) hr (by decide) (da_cons (dx_op o_add dx_str (x_ix hu1 (xv 4) dx_int)) da_nil)) (dx_callV (i := 3) (nok_asked T) hr (by decide) (da_cons (dx_op o_add dx_str (x_ix hu1 (xv 4) dx_int)) da_nil)))
  (dss_one (s_for po rfl (xi_rng1 T.n_range (da_cons dx_int da_nil)) (g_nm (j := 6) sc_law.nd)
  (dss_cons (s_set (j := 7) (dx_call (G__law_given.mono (by decide)) hr tk (by rfl) T.g__law_given T.F__law_given.kp T.b__law_given (da_cons (xv 1) (da_cons (xv 5) (da_cons (xv 3) (da_cons (x_ix hu1 (xv 4) dx_int) da_nil))))) sc_law.nd)
  (dss_cons (ds_if (xt_cmp o_notN (xv 7) dx_non)
  (dss_cons (ds_asg (xv 7) (dg_tp rfl (dgs_cons (g_nm (j := 8) sc_law.nd) (dgs_cons (g_nm (j := 9) sc_law.nd) dgs_nil))))
  (dss_one (ds_if (PW.pt (dw_or (xt_cmp o_isN (xv 8) dx_non) (dw_or (xt_cmp (o_ne hu64) (dx_slice (x_ix hu1 (xv 8) dx_int) do_none (do_some (x_neg dx_int))) (x_ix hu1 (xv 5) dx_int)) (dw_or1 (dt_not (dt_val (dx_call (G__law_right.mono (by decide)) hr tk (by rfl) T.g__law_right T.F__law_right.kp T.b__law_right (da_cons (xv 5) (da_cons (xv 8) (da_cons (xv 9) (da_cons (xv 3) (da_cons (xv 4) da_nil))))))))))))
  (dss_one (ds_ret dx_bl))
  dss_nil)))
  dss_nil)
  (dss_one (s_set (j := 5) (dx_call (G__law_next.mono (by decide)) hr tk (by rfl) T.g__law_next T.F__law_next.kp T.b__law_next (da_cons (xv 5) (da_cons (dx_tup (da_cons dx_str da_nil)) (da_cons (xv 3) da_nil)))) sc_law.nd))))))
  dss_nil)))))
  (dss_one (ds_ret dx_bl))))
  case len =>
    intro ds S Q E h
    obtain ⟨ns, rfl, _⟩ := h
    rfl
  case read =>
    intro ds S Q E h
    obtain ⟨ns, rfl, ht, h⟩ := h
    simp [startD, retE, -forW_cons, -forW_nil]
    refine ⟨ns, rfl, fun a c S1 hd1 keep1 => ?_⟩
    have ht1 : TabD S1 T.P__law_digest q_asked := TabD.keep ht fun b o e => by rw [keep1 b (by rw [e]; exact Option.some_ne_none _)]; exact e
    refine ⟨by split <;> omega, by split <;> omega, ?_⟩
    refine forW_ind (fun ds ρ S' => (∃ v2 v3 v4 v5 v6 v7 v8 v9, ρ = [some (D.scr ns), some (.ref a), v2, v3, v4, v5, v6, v7, v8, v9]) ∧ Draw S' a c ∧ TabD S' T.P__law_digest q_asked) (fun ρ S' _ => h _) ?_ _ _ _ ⟨⟨_, _, _, _, _, _, _, _, rfl⟩, hd1, ht1⟩
    rintro di ds ρ S2 ⟨⟨v2, v3, v4, v5, v6, v7, v8, v9, rfl⟩, hd2, ht2⟩ ih
    refine ⟨_, rfl, ?_⟩
    simp [-forW_cons, -forW_nil]
    refine ⟨a, c, rfl, hd2, ht2, fun S3 f F d step hd3 D3 ht3 k3 => ?_⟩
    refine ⟨a, c, 2, rfl, hd3, by decide, by decide, fun ws S4 st4 hl hk nd => ?_⟩
    obtain ⟨w0, w1, rfl⟩ : ∃ w0 w1, ws = [w0, w1] := by
      match ws, hl with
      | [w0, w1], _ => exact ⟨w0, w1, rfl⟩
      | [], hl => cases hl
      | [_], hl => simp at hl
      | _ :: _ :: _ :: _, hl => simp at hl; omega
    have hk0 := hk w0 (by simp)
    have hk1 := hk w1 (by simp)
    have hw : w0 ≠ w1 := by
      intro z
      rw [z] at nd
      simp at nd
    have D4 := D3.step hd3 st4
    have ht4 : TabD S4 T.P__law_digest q_asked := TabD.keep ht3 fun b o e => st4.raw hd3 e
    refine ⟨_, _, ⟨rfl, rfl⟩, ?_⟩
    simp [cutD, HT.sIx, -forW_cons, -forW_nil]
    refine ⟨a, c, f, F, d, step, [], [w1], rfl, st4.1, D4, fun k v e => (by cases e), by decide, by simp, by simp, by simpa using hk1, fun s S5 kds hs hd5 D5 hv5 hl5 _ k5 => ?_⟩
    have ht5 : TabD S5 T.P__law_digest q_asked := TabD.keep ht4 fun b o e => by
      have h1 := st4.1.ne_raw e
      rw [k5 b h1.1 h1.2 (fun z => by rw [z, D4.at_] at e; cases e)]; exact e
    have hl5 : kds.length ≤ 4 := by simpa using hl5
    simp [-forW_cons, -forW_nil]
    refine ⟨f, F, _, rfl, D5.clo, D5.kd, ?_⟩
    have len0 := key_len hk0
    have len1 := key_len hk1
    simp [len_lock, -forW_cons, -forW_nil]
    refine ⟨by omega, dig_any D5 (by omega) hv5 fun i0 S6 kds6 D6 hv6 g6 i0a i0b hl6 ex6 k6 Sx ex => ?_⟩
    rw [ex]
    refine ⟨f, F, _, rfl, D6.clo, D6.kd, ?_⟩
    simp [len_lock, -forW_cons, -forW_nil]
    refine ⟨by omega, dig_any D6 (by omega) hv6 fun i1 S7 kds7 D7 hv7 g7 i1a i1b hl7 ex7 k7 Sy ey => ?_⟩
    rw [ey]
    have hd7 : Draw S7 a c := by
      have n1 := hd5.ne_dct D5.at_
      have n2 : Draw S6 a c := hd5.of (k6 a (Ne.symm n1.1)) (k6 c (Ne.symm n1.2))
      exact n2.of (k7 a (Ne.symm n1.1)) (k7 c (Ne.symm n1.2))
    have ht7 : TabD S7 T.P__law_digest q_asked := by
      have ht6 : TabD S6 T.P__law_digest q_asked := TabD.keep ht5 fun b o e => by
        rw [k6 b (fun z => by rw [z, D5.at_] at e; cases e)]; exact e
      exact TabD.keep ht6 fun b o e => by
        rw [k7 b (fun z => by rw [z, D6.at_] at e; cases e)]; exact e
    simp [-forW_cons, -forW_nil]
    refine ifs (fun e => ih _ _ ⟨⟨_, _, _, _, _, _, _, _, rfl⟩, hd7, ht7⟩) (fun hne => ?_)
    generalize elk : (fun x : Str => if x = w0 then i0 else i1) = lk
    have lk0 : lk w0 = i0 := by rw [← elk]; simp
    have lk1 : lk w1 = i1 := by rw [← elk]; simp [Ne.symm hw]
    have both7 : Both S7 f w0 w1 lk := ⟨hk0, hk1, F, d, step, kds7, D7, by omega, by rw [lk0]; exact ex7 _ _ g6, by rw [lk1]; exact g7⟩
    refine forW_ind (fun ds ρ S' => ∃ (s : Sta) (v6 v7 v8 v9 : Option D), ρ = [some (D.scr ns), some (.ref a), some di, some (.ref f), some (.lst [.str w0, .str w1]), some s.d, v6, v7, v8, v9] ∧ isSt s = true ∧ Draw S' a c ∧ Both S' f w0 w1 lk ∧ TabD S' T.P__law_digest q_asked) ?_ ?_ _ _ _ ⟨s, _, _, _, _, rfl, hs, hd7, both7, ht7⟩
    · rintro ρ S' ⟨s, v6, v7, v8, v9, rfl, hs, hd, hb, ht⟩
      exact ih _ _ ⟨⟨_, _, _, _, _, _, _, _, rfl⟩, hd, ht⟩
    · rintro dj ds' ρ S8 ⟨s, v6, v7, v8, v9, rfl, hs, hd8, hb8, ht8⟩ ih2
      refine ⟨_, rfl, ?_⟩
      simp [-forW_cons, -forW_nil]
      have pass : ∀ (v7 v8 v9 : Option D) (S9 : IS), Draw S9 a c → Both S9 f w0 w1 lk → TabD S9 T.P__law_digest q_asked → sp__law_next [s.d, .tup [.str "pass"], .ref f] S9 (fun d S' => forW (Tg.nm 6) _ _ ds' [some (D.scr ns), some (.ref a), some di, some (.ref f), some (.lst [.str w0, .str w1]), some d, some dj, v7, v8, v9] S') (fun _ _ _ => False) := fun v7 v8 v9 S9 hd9 hb9 ht9 => by
        refine ⟨s, .pass, f, lk, rfl, hs, True.intro, True.intro, ?_⟩
        rw [show nextTo s .pass lk = some ⟨s.pool, s.turn + 1, s.x, s.y, s.ps⟩ from pass_ok hs]
        exact ih2 _ _ ⟨⟨s.pool, s.turn + 1, s.x, s.y, s.ps⟩, _, _, _, _, rfl, passOk hs, hd9, hb9, ht9⟩
      refine ⟨a, c, s, f, w0, w1, lk, rfl, hd8, hs, hb8, by rw [lk0]; exact i0a, by rw [lk0]; omega, fun _ => ?_, fun S9 mark held un st9 gv => ?_⟩
      · simp [-forW_cons, -forW_nil]
        exact pass _ _ _ S8 hd8 hb8 ht8
      · have hb9 : Both S9 f w0 w1 lk := by
          obtain ⟨q0, q1, F', d', step', kds', Dg, q2, q3, q4⟩ := hb8
          exact ⟨q0, q1, F', d', step', kds', Dg.step hd8 st9, q2, q3, q4⟩
        have ht9 : TabD S9 T.P__law_digest q_asked := TabD.keep ht8 fun b o e => st9.raw hd8 e
        simp [-forW_cons, -forW_nil]
        rw [show isNon (later s w0 lk mark held un).d = false from rfl, if_neg Bool.false_ne_true]
        refine ⟨5, _, rfl, rfl, ?_⟩
        have ecut : cutD ((later s w0 lk mark held un).ps.map Pr.d) none (some (-1)) = s.ps.map Pr.d := by
          show cutD ((s.ps ++ [pG s w0 lk mark held un]).map Pr.d) none (some (-1)) = _
          rw [List.map_append]
          unfold cutD HT.sIx
          have e9 : (-1 + ((s.ps.map Pr.d ++ [pG s w0 lk mark held un].map Pr.d).length : Int)).toNat = s.ps.length := by
            simp
            omega
          simp only [show (-1 : Int) < 0 from by decide, if_true, e9]
          simp
        simp only [s_sl_t, ecut]
        refine ⟨5, _, rfl, rfl, ⟨by show okD 60 (.tup (s.ps.map Pr.d)) = true; rw [ok_tup60]; exact okDs_prs _, by show okD 60 (.tup (s.ps.map Pr.d)) = true; rw [ok_tup60]; exact okDs_prs _⟩, ifs (fun _ => ?_) (fun z => (z (eqDs_prs _)).elim)⟩
        refine ⟨s, mark, held, un, f, w0, w1, lk, rfl, gv, hb9, by rw [lk0, lk1]; exact fun z => hne z.symm, ?_⟩
        show blK (D.bl true) _
        rw [blK_bl]
        refine ifs (fun _ => ?_) (fun z => (z rfl).elim)
        exact pass _ _ _ S9 st9.1 hb9 ht9
end K43

set_option Elab.async false
set_option linter.all false
set_option autoImplicit false
set_option maxRecDepth 100000
set_option maxHeartbeats 4000000
namespace K43
open PySem PySem.Spec L2 DL NdefX
/-- a def that stands in the written part -/
theorem fun_ex {K : PySem.W.Frag} {h : Heap} {mg : Str → Option Value} (X : K.In h) (G : h.Ns mainGlobals mg) {x : Str} {st : Stmt} {f : Addr} {oc : Value} {od an : Option Addr} {osl : Array (Option Value)} {kV doc pm cdv ct : Value}
    (a : PySem.W.nsIn K mainGlobals x = some (some (.ref f))) (l : K.lookup f = some ⟨oc, od, .func (PySem.W.fnOf x x (defArgs st) (defBody st) (defScope st) .none kV doc pm an cdv ct), osl⟩) (c : PySem.W.codeIn K cdv x = true) (k : PySem.W.keepIn K (.ref f) = true) :
    ∃ (f : Addr) (fd : FuncData), mg x = some (.ref f) ∧ Fun K x x st f fd := ⟨f, _, PySem.W.mg_of X G a, fun_mk l c k⟩
theorem cst_ex {K : PySem.W.Frag} {h : Heap} {mg : Str → Option Value} (X : K.In h) (G : h.Ns mainGlobals mg) {x : Str} {v : Value} {p : Value → Prop} (a : PySem.W.nsIn K mainGlobals x = some (some v)) (k : p v) : ∃ v, mg x = some v ∧ p v := ⟨v, PySem.W.mg_of X G a, k⟩
theorem exc_ex {K : PySem.W.Frag} {h : Heap} {mg : Str → Option Value} (X : K.In h) (G : h.Ns mainGlobals mg) {x : Str} {C : Addr} {p : Addr → Prop} (a : PySem.W.nsIn K mainGlobals x = some (some (.ref C))) (k : p C) : ∃ C, mg x = some (.ref C) ∧ p C := ⟨C, PySem.W.mg_of X G a, k⟩
theorem self_exm {K : PySem.W.Frag} {C : Addr} (h1 : PySem.W.subIn K (.ref C) (.type "BaseException") = some true) (h2 : PySem.W.isClsIn K C = true) (h3 : PySem.W.typeIn K (.ref C) = some (.type "type")) (h4 : PySem.W.subIn K (.ref C) (.ref C) = some true) :
    PySem.W.exmOne K (.ref C) (.ref C) = some true := by
  unfold PySem.W.exmOne PySem.W.kitCls
  have h2' : (PySem.W.clsIn K C).isSome = true := h2
  simp [h1, h2', h3, h4]
theorem exc_all {K : PySem.W.Frag} {h : Heap} {mg : Str → Option Value} (X : K.In h) (G : h.Ns mainGlobals mg) {x : Str} {C : Addr} (a : PySem.W.nsIn K mainGlobals x = some (some (.ref C))) (k1 : PySem.W.keepIn K (.ref C) = true)
    (k2 : PySem.W.excIn K C [.type "ValueError", .type "Exception", .type "BaseException", .type "object"] "ValueError.__new__" = true) (k3 : PySem.W.subIn K (.ref C) (.type "BaseException") = some true) (k4 : PySem.W.typeIn K (.ref C) = some (.type "type")) (k6 : PySem.W.isClsIn K C = true) (k8 : PySem.W.subIn K (.ref C) (.ref C) = some true) :
    ∃ C, mg x = some (.ref C) ∧ PySem.W.keepIn K (.ref C) = true ∧ PySem.W.excIn K C [.type "ValueError", .type "Exception", .type "BaseException", .type "object"] "ValueError.__new__" = true ∧ PySem.W.subIn K (.ref C) (.type "BaseException") = some true ∧ PySem.W.typeIn K (.ref C) = some (.type "type") ∧ PySem.W.exmOne K (.ref C) (.ref C) = some true :=
  ⟨C, PySem.W.mg_of X G a, k1, k2, k3, k4, self_exm k3 k6 k4 k8⟩
theorem kint_ex {K : PySem.W.Frag} {h : Heap} {mg : Str → Option Value} {w : World} (X : K.In h) (G : h.Ns mainGlobals mg) {x : Str} {p : Addr} {es : Array DictEntry} {n : Nat} {tb : List (Str × Int)} (a : PySem.W.nsIn K mainGlobals x = some (some (.ref p))) (l : K.lookup p = some ⟨.type "dict", none, .dict es n, #[]⟩)
    (kl : PySem.W.KeysLit w.params es.toList) (sm : (p == sysModules) = false) (pr : Paired EntIs es.toList tb) : ∃ p, mg x = some (.ref p) ∧ KInt K w p tb := ⟨p, PySem.W.mg_of X G a, es, n, l, kl, sm, pr⟩
theorem dig_ex {K : PySem.W.Frag} {h : Heap} {mg : Str → Option Value} (X : K.In h) (G : h.Ns mainGlobals mg) {x : Str} {st : Stmt} {f cd P : Addr} {ts : List Addr} {oc : Value} {od an : Option Addr} {osl : Array (Option Value)} {kV doc pm ct : Value} (hT : ∀ P ∈ ts, h.get? P = some (PySem.W.tabObj #[]))
    (a : PySem.W.nsIn K mainGlobals x = some (some (.ref f))) (l : K.lookup f = some ⟨oc, od, .func (PySem.W.fnOf x x (defArgs st) (defBody st) (defScope st) .none kV doc pm an (.ref cd) ct), osl⟩) (c : PySem.W.codeIn K (.ref cd) x = true) (k : PySem.W.keepIn K (.ref f) = true)
    (m : P ∈ ts) (hd : PySem.W.codeHdIn K cd P = true) (n : K.lookup P = none) :
    ∃ (f : Addr) (fd : FuncData) (cd P : Addr), mg x = some (.ref f) ∧ FunC K x x st f fd cd ∧ (h.get? P = some { cls := .none, data := .fields #[] } ∧ K.lookup P = none ∧ PySem.W.CodeHd h cd P) :=
  ⟨f, _, cd, P, PySem.W.mg_of X G a, ⟨⟨oc, od, kV, doc, pm, an, ct, osl, rfl, l, c⟩, k⟩, hT P m, n, PySem.W.codeHd_of_K X hd⟩
theorem bind_of {K : PySem.W.Frag} {x qual : Str} {st : Stmt} {f : Addr} {fd : FuncData} {cd : Addr} {ps : List Str} (F : FunC K x qual st f fd cd)
    (h : ∀ (kV doc pm : Value) (an : Option Addr) (cdv ct : Value) (us : List Value), us.length = ps.length → bindArgs (PySem.W.fnOf x qual (defArgs st) (defBody st) (defScope st) .none kV doc pm an cdv ct) ⟨us, []⟩ = pure (ps.zip us)) : Binds K fd ps [] := by
  obtain ⟨oc, od, kV, doc, pm, an, ct, osl, rfl, lk, hcd⟩ := F.ex
  exact .all (h kV doc pm an _ ct)
abbrev lspT {K : PySem.W.Frag} {mg : Str → Option Value} {w : World} (T : Txt K mg w) : Sp := LSp K (sp_law T.P__law_digest)
theorem start_ok {K : PySem.W.Frag} {P : Addr} {H : Hp} {a : Addr} {ns : List Int} (hl : ns.length ≤ 63) (hP : H P = some (.tbl #[])) (hS : SqL K H a (ns.map V.int)) : LSp K (sp_law P) [.ref a] H (fun v _ => v = .bl true) fun _ _ _ => False := by
  have hz : ns.length ≤ sizeLine := le_line (by omega)
  have sS : ∀ b i, (if b = P then some (IO.raw (.tbl #[])) else none) = some i → ∃ o, H b = some o ∧ IOk K (fun _ => none) i o := fun b i e => by
    split at e
    · cases e
      rename_i hb
      exact ⟨_, by rw [hb]; exact hP, rfl⟩
    · cases e
  have fin : ∀ F : Hp, (∀ b o, F b = some o → H b = some o ∧ b ≠ P ∧ NT o) → SqL K F a (ns.map V.int) → LSp K (sp_law P) [.ref a] H (fun v _ => v = .bl true) fun _ _ _ => False := fun F hF hq => by
    refine ⟨[.scr ns], fun b => if b = P then some (.raw (.tbl #[])) else none, F, fun d _ => d = .bl true, fun _ _ _ => False, ⟨fun b o e => ⟨(hF b o e).1, if_neg (hF b o e).2.1⟩, fun b i e => ?_, fun b o e => (hF b o e).2.2⟩, .cons (.scr hq hz) .nil, ⟨ns, rfl, ⟨#[], if_pos rfl, True.intro, fun pos cv hc => ?_⟩, fun _ => rfl⟩, fun v H' S' F' d A dn e => ?_, fun _ _ _ _ _ _ _ _ z => z⟩
    · have e' : (if b = P then some (IO.raw (.tbl #[])) else none) = some i := e
      split at e'
      · cases e'
        rename_i hb
        exact ⟨_, by rw [hb]; exact hP, rfl⟩
      · cases e'
    · have z : codeAmong pos [] = some cv := hc
      simp [codeAmong] at z
    · subst e
      exact den_bl dn
  rcases hS with (h | ⟨ob, h⟩) | h
  · refine fin (fun b => if b = a then H a else none) (fun b o e => ?_) (.inl (.inl ((if_pos rfl : (if a = a then H a else none) = H a).trans h)))
    have e' : (if b = a then H a else none) = some o := e
    split at e'
    · rename_i hb
      rw [h] at e'
      cases e'
      exact ⟨(by rw [hb]; exact h), (fun z => by rw [← hb, z, hP] at h; cases h), (fun _ z => by cases z)⟩
    · cases e'
  · refine fin (fun b => if b = a then H a else none) (fun b o e => ?_) (.inl (.inr ⟨ob, (if_pos rfl : (if a = a then H a else none) = H a).trans h⟩))
    have e' : (if b = a then H a else none) = some o := e
    split at e'
    · rename_i hb
      rw [h] at e'
      cases e'
      exact ⟨(by rw [hb]; exact h), (fun z => by rw [← hb, z, hP] at h; cases h), (fun _ z => by cases z)⟩
    · cases e'
  · exact fin (fun _ => none) (fun b o e => by cases e) (.inr h)
end K43
open PySem PySem.W PyProof.Rows
set_option maxRecDepth 100000 in
set_option maxHeartbeats 0 in
theorem PySem.Challenge.cw_clearyard_k43_whole_promises_there_and_b_holds : PySem.Challenge.rw_clearyard_k43_whole_promises_there_and_b.Holds := by
  w_on; o_law; k_head; (case hw => w_witness2)
  k_fill
  refine LamX.walk_ofTs (l := PySem.Challenge.rw_clearyard_k43_whole_promises_there_and_b) (n := 63) (k := 12) (x := "_law_script") (CX := fun w => L2.CX PySem.Challenge.rw_clearyard_k43_whole_promises_there_and_b.prog w) rfl (DL.le_line (by decide)) rfl ⟨rfl, by decide, by decide⟩ (fun w h Y => km_in_of Y) ?F (fun w H s e s' z => by obtain ⟨_, _, _, _, _, _, _, _, _, _, _, _, z⟩ := z; exact z.elim)
  case F =>
    intro w mg fa h Y KX G hmg
    have hT := km_tabs_of Y
    obtain ⟨a_is_number, fd_is_number, g_is_number, F_is_number⟩ := K43.fun_ex (x := "is_number") (st := K43.s_is_number) KX G (by k_is) (by k_is) (by k_is) (by k_is)
    obtain ⟨a_is_amount, fd_is_amount, g_is_amount, F_is_amount⟩ := K43.fun_ex (x := "is_amount") (st := K43.s_is_amount) KX G (by k_is) (by k_is) (by k_is) (by k_is)
    obtain ⟨a_is_time, fd_is_time, g_is_time, F_is_time⟩ := K43.fun_ex (x := "is_time") (st := K43.s_is_time) KX G (by k_is) (by k_is) (by k_is) (by k_is)
    obtain ⟨a_is_promise, fd_is_promise, g_is_promise, F_is_promise⟩ := K43.fun_ex (x := "is_promise") (st := K43.s_is_promise) KX G (by k_is) (by k_is) (by k_is) (by k_is)
    obtain ⟨a_are_promises, fd_are_promises, g_are_promises, F_are_promises⟩ := K43.fun_ex (x := "are_promises") (st := K43.s_are_promises) KX G (by k_is) (by k_is) (by k_is) (by k_is)
    obtain ⟨a_is_state, fd_is_state, g_is_state, F_is_state⟩ := K43.fun_ex (x := "is_state") (st := K43.s_is_state) KX G (by k_is) (by k_is) (by k_is) (by k_is)
    obtain ⟨a_need_state, fd_need_state, g_need_state, F_need_state⟩ := K43.fun_ex (x := "need_state") (st := K43.s_need_state) KX G (by k_is) (by k_is) (by k_is) (by k_is)
    obtain ⟨a_is_key, fd_is_key, g_is_key, F_is_key⟩ := K43.fun_ex (x := "is_key") (st := K43.s_is_key) KX G (by k_is) (by k_is) (by k_is) (by k_is)
    obtain ⟨a_is_secret, fd_is_secret, g_is_secret, F_is_secret⟩ := K43.fun_ex (x := "is_secret") (st := K43.s_is_secret) KX G (by k_is) (by k_is) (by k_is) (by k_is)
    obtain ⟨a_need_secret, fd_need_secret, g_need_secret, F_need_secret⟩ := K43.fun_ex (x := "need_secret") (st := K43.s_need_secret) KX G (by k_is) (by k_is) (by k_is) (by k_is)
    obtain ⟨a_lock_of, fd_lock_of, g_lock_of, F_lock_of⟩ := K43.fun_ex (x := "lock_of") (st := K43.s_lock_of) KX G (by k_is) (by k_is) (by k_is) (by k_is)
    obtain ⟨a_mover, fd_mover, g_mover, F_mover⟩ := K43.fun_ex (x := "mover") (st := K43.s_mover) KX G (by k_is) (by k_is) (by k_is) (by k_is)
    obtain ⟨a_is_move, fd_is_move, g_is_move, F_is_move⟩ := K43.fun_ex (x := "is_move") (st := K43.s_is_move) KX G (by k_is) (by k_is) (by k_is) (by k_is)
    obtain ⟨a_promise_of, fd_promise_of, g_promise_of, F_promise_of⟩ := K43.fun_ex (x := "promise_of") (st := K43.s_promise_of) KX G (by k_is) (by k_is) (by k_is) (by k_is)
    obtain ⟨a_with_sums, fd_with_sums, g_with_sums, F_with_sums⟩ := K43.fun_ex (x := "with_sums") (st := K43.s_with_sums) KX G (by k_is) (by k_is) (by k_is) (by k_is)
    obtain ⟨a_after_give, fd_after_give, g_after_give, F_after_give⟩ := K43.fun_ex (x := "after_give") (st := K43.s_after_give) KX G (by k_is) (by k_is) (by k_is) (by k_is)
    obtain ⟨a_after_taking, fd_after_taking, g_after_taking, F_after_taking⟩ := K43.fun_ex (x := "after_taking") (st := K43.s_after_taking) KX G (by k_is) (by k_is) (by k_is) (by k_is)
    obtain ⟨a_led_to, fd_led_to, g_led_to, F_led_to⟩ := K43.fun_ex (x := "led_to") (st := K43.s_led_to) KX G (by k_is) (by k_is) (by k_is) (by k_is)
    obtain ⟨a_moved, fd_moved, g_moved, F_moved⟩ := K43.fun_ex (x := "moved") (st := K43.s_moved) KX G (by k_is) (by k_is) (by k_is) (by k_is)
    obtain ⟨a__law_begin, fd__law_begin, g__law_begin, F__law_begin⟩ := K43.fun_ex (x := "_law_begin") (st := K43.s__law_begin) KX G (by k_is) (by k_is) (by k_is) (by k_is)
    obtain ⟨a__law_take, fd__law_take, g__law_take, F__law_take⟩ := K43.fun_ex (x := "_law_take") (st := K43.s__law_take) KX G (by k_is) (by k_is) (by k_is) (by k_is)
    obtain ⟨a__law_pick, fd__law_pick, g__law_pick, F__law_pick⟩ := K43.fun_ex (x := "_law_pick") (st := K43.s__law_pick) KX G (by k_is) (by k_is) (by k_is) (by k_is)
    obtain ⟨a__law_digest, fd__law_digest, cd__law_digest, P__law_digest, g__law_digest, F__law_digest, t1__law_digest, t2__law_digest, t3__law_digest⟩ := K43.dig_ex (x := "_law_digest") (st := K43.s__law_digest) KX G hT (by k_is) (by k_is) (by k_is) (by k_is) (List.mem_cons_self ..) (by first | kernel_rfl | decide +kernel) (by first | kernel_rfl | decide +kernel)
    obtain ⟨a__law_words, fd__law_words, g__law_words, F__law_words⟩ := K43.fun_ex (x := "_law_words") (st := K43.s__law_words) KX G (by k_is) (by k_is) (by k_is) (by k_is)
    obtain ⟨a__law_pool, fd__law_pool, g__law_pool, F__law_pool⟩ := K43.fun_ex (x := "_law_pool") (st := K43.s__law_pool) KX G (by k_is) (by k_is) (by k_is) (by k_is)
    obtain ⟨a__law_next, fd__law_next, g__law_next, F__law_next⟩ := K43.fun_ex (x := "_law_next") (st := K43.s__law_next) KX G (by k_is) (by k_is) (by k_is) (by k_is)
    obtain ⟨a__law_given, fd__law_given, g__law_given, F__law_given⟩ := K43.fun_ex (x := "_law_given") (st := K43.s__law_given) KX G (by k_is) (by k_is) (by k_is) (by k_is)
    obtain ⟨a__law_over, fd__law_over, g__law_over, F__law_over⟩ := K43.fun_ex (x := "_law_over") (st := K43.s__law_over) KX G (by k_is) (by k_is) (by k_is) (by k_is)
    obtain ⟨a__law_right, fd__law_right, g__law_right, F__law_right⟩ := K43.fun_ex (x := "_law_right") (st := K43.s__law_right) KX G (by k_is) (by k_is) (by k_is) (by k_is)
    obtain ⟨a_law, fd_law, g_law, F_law⟩ := K43.fun_ex (x := "law") (st := K43.s_law) KX G (by k_is) (by k_is) (by k_is) (by k_is)
    obtain ⟨v_MOST, g_MOST, i_MOST⟩ := K43.cst_ex (x := "MOST") KX G (p := fun v => ∃ t, v = Value.int 1000000000 t) (by k_is) ⟨_, by first | rfl | kernel_rfl⟩
    obtain ⟨v_MOST_LOCK, g_MOST_LOCK, i_MOST_LOCK⟩ := K43.cst_ex (x := "MOST_LOCK") KX G (p := fun v => ∃ t, v = Value.int 1000000000000000000000000000000 t) (by k_is) ⟨_, by first | rfl | kernel_rfl⟩
    obtain ⟨v_MOST_PROMISES, g_MOST_PROMISES, i_MOST_PROMISES⟩ := K43.cst_ex (x := "MOST_PROMISES") KX G (p := fun v => ∃ t, v = Value.int 4 t) (by k_is) ⟨_, by first | rfl | kernel_rfl⟩
    obtain ⟨v_MOST_HAD, g_MOST_HAD, i_MOST_HAD⟩ := K43.cst_ex (x := "MOST_HAD") KX G (p := fun v => ∃ t, v = Value.int 10000000000 t) (by k_is) ⟨_, by first | rfl | kernel_rfl⟩
    obtain ⟨v_LETTERS, g_LETTERS, i_LETTERS⟩ := K43.cst_ex (x := "LETTERS") KX G (p := fun v => ∃ t, v = Value.str "abcdefghijklmnopqrstuvwxyz" t) (by k_is) ⟨_, by first | rfl | kernel_rfl⟩
    obtain ⟨v_LONGEST_KEY, g_LONGEST_KEY, i_LONGEST_KEY⟩ := K43.cst_ex (x := "LONGEST_KEY") KX G (p := fun v => ∃ t, v = Value.int 20 t) (by k_is) ⟨_, by first | rfl | kernel_rfl⟩
    obtain ⟨a_NoState, g_NoState, k_NoState, x_NoState, e_NoState, t_NoState, m_NoState⟩ := K43.exc_all (x := "NoState") KX G (by k_is) (by k_is) (by first | k_exc | kernel_rfl | decide +kernel) (by k_is) (by k_is) (by k_is) (by first | k_is | rfl)
    obtain ⟨a_NoSeal, g_NoSeal, k_NoSeal, x_NoSeal, e_NoSeal, t_NoSeal, m_NoSeal⟩ := K43.exc_all (x := "NoSeal") KX G (by k_is) (by k_is) (by first | k_exc | kernel_rfl | decide +kernel) (by k_is) (by k_is) (by k_is) (by first | k_is | rfl)
    obtain ⟨a_NoMove, g_NoMove, k_NoMove, x_NoMove, e_NoMove, t_NoMove, m_NoMove⟩ := K43.exc_all (x := "NoMove") KX G (by k_is) (by k_is) (by first | k_exc | kernel_rfl | decide +kernel) (by k_is) (by k_is) (by k_is) (by first | k_is | rfl)
    obtain ⟨a_PARTS_OF, g_PARTS_OF, kt_PARTS_OF⟩ := K43.kint_ex (x := "PARTS_OF") (w := w) (tb := [("pay", 2), ("give", 5), ("claim", 3), ("back", 2), ("late", 2), ("pass", 1)]) KX G (by k_is) (by k_is) (by exact ⟨⟨_, _, rfl, rfl⟩, ⟨_, _, rfl, rfl⟩, ⟨_, _, rfl, rfl⟩, ⟨_, _, rfl, rfl⟩, ⟨_, _, rfl, rfl⟩, ⟨_, _, rfl, rfl⟩, True.intro⟩) (by decide) (by exact .cons ⟨⟨_, rfl⟩, ⟨_, rfl⟩⟩ (.cons ⟨⟨_, rfl⟩, ⟨_, rfl⟩⟩ (.cons ⟨⟨_, rfl⟩, ⟨_, rfl⟩⟩ (.cons ⟨⟨_, rfl⟩, ⟨_, rfl⟩⟩ (.cons ⟨⟨_, rfl⟩, ⟨_, rfl⟩⟩ (.cons ⟨⟨_, rfl⟩, ⟨_, rfl⟩⟩ (.nil)))))))
    let T : K43.Txt _ mg w := {
      a_is_number := a_is_number,
      fd_is_number := fd_is_number,
      F_is_number := F_is_number,
      b_is_number := F_is_number.binds (fun _ _ _ _ _ _ us hl => match us, hl with | [_, _, _], _ => rfl),
      g_is_number := g_is_number,
      a_is_amount := a_is_amount,
      fd_is_amount := fd_is_amount,
      F_is_amount := F_is_amount,
      b_is_amount := F_is_amount.binds (fun _ _ _ _ _ _ us hl => match us, hl with | [_], _ => rfl),
      g_is_amount := g_is_amount,
      a_is_time := a_is_time,
      fd_is_time := fd_is_time,
      F_is_time := F_is_time,
      b_is_time := F_is_time.binds (fun _ _ _ _ _ _ us hl => match us, hl with | [_], _ => rfl),
      g_is_time := g_is_time,
      a_is_promise := a_is_promise,
      fd_is_promise := fd_is_promise,
      F_is_promise := F_is_promise,
      b_is_promise := F_is_promise.binds (fun _ _ _ _ _ _ us hl => match us, hl with | [_], _ => rfl),
      g_is_promise := g_is_promise,
      a_are_promises := a_are_promises,
      fd_are_promises := fd_are_promises,
      F_are_promises := F_are_promises,
      b_are_promises := F_are_promises.binds (fun _ _ _ _ _ _ us hl => match us, hl with | [_], _ => rfl),
      g_are_promises := g_are_promises,
      a_is_state := a_is_state,
      fd_is_state := fd_is_state,
      F_is_state := F_is_state,
      b_is_state := F_is_state.binds (fun _ _ _ _ _ _ us hl => match us, hl with | [_], _ => rfl),
      g_is_state := g_is_state,
      a_need_state := a_need_state,
      fd_need_state := fd_need_state,
      F_need_state := F_need_state,
      b_need_state := F_need_state.binds (fun _ _ _ _ _ _ us hl => match us, hl with | [_], _ => rfl),
      g_need_state := g_need_state,
      a_is_key := a_is_key,
      fd_is_key := fd_is_key,
      F_is_key := F_is_key,
      b_is_key := F_is_key.binds (fun _ _ _ _ _ _ us hl => match us, hl with | [_], _ => rfl),
      g_is_key := g_is_key,
      a_is_secret := a_is_secret,
      fd_is_secret := fd_is_secret,
      F_is_secret := F_is_secret,
      b_is_secret := F_is_secret.binds (fun _ _ _ _ _ _ us hl => match us, hl with | [_], _ => rfl),
      g_is_secret := g_is_secret,
      a_need_secret := a_need_secret,
      fd_need_secret := fd_need_secret,
      F_need_secret := F_need_secret,
      b_need_secret := F_need_secret.binds (fun _ _ _ _ _ _ us hl => match us, hl with | [_], _ => rfl),
      g_need_secret := g_need_secret,
      a_lock_of := a_lock_of,
      fd_lock_of := fd_lock_of,
      F_lock_of := F_lock_of,
      b_lock_of := F_lock_of.binds (fun _ _ _ _ _ _ us hl => match us, hl with | [_, _], _ => rfl),
      g_lock_of := g_lock_of,
      a_mover := a_mover,
      fd_mover := fd_mover,
      F_mover := F_mover,
      b_mover := F_mover.binds (fun _ _ _ _ _ _ us hl => match us, hl with | [_], _ => rfl),
      g_mover := g_mover,
      a_is_move := a_is_move,
      fd_is_move := fd_is_move,
      F_is_move := F_is_move,
      b_is_move := F_is_move.binds (fun _ _ _ _ _ _ us hl => match us, hl with | [_], _ => rfl),
      g_is_move := g_is_move,
      a_promise_of := a_promise_of,
      fd_promise_of := fd_promise_of,
      F_promise_of := F_promise_of,
      b_promise_of := F_promise_of.binds (fun _ _ _ _ _ _ us hl => match us, hl with | [_, _], _ => rfl),
      g_promise_of := g_promise_of,
      a_with_sums := a_with_sums,
      fd_with_sums := fd_with_sums,
      F_with_sums := F_with_sums,
      b_with_sums := F_with_sums.binds (fun _ _ _ _ _ _ us hl => match us, hl with | [_, _, _, _], _ => rfl),
      g_with_sums := g_with_sums,
      a_after_give := a_after_give,
      fd_after_give := fd_after_give,
      F_after_give := F_after_give,
      b_after_give := F_after_give.binds (fun _ _ _ _ _ _ us hl => match us, hl with | [_, _, _], _ => rfl),
      g_after_give := g_after_give,
      a_after_taking := a_after_taking,
      fd_after_taking := fd_after_taking,
      F_after_taking := F_after_taking,
      b_after_taking := F_after_taking.binds (fun _ _ _ _ _ _ us hl => match us, hl with | [_, _, _, _], _ => rfl),
      g_after_taking := g_after_taking,
      a_led_to := a_led_to,
      fd_led_to := fd_led_to,
      F_led_to := F_led_to,
      b_led_to := F_led_to.binds (fun _ _ _ _ _ _ us hl => match us, hl with | [_, _, _, _], _ => rfl),
      g_led_to := g_led_to,
      a_moved := a_moved,
      fd_moved := fd_moved,
      F_moved := F_moved,
      b_moved := F_moved.binds (fun _ _ _ _ _ _ us hl => match us, hl with | [_, _, _, _], _ => rfl),
      g_moved := g_moved,
      a__law_begin := a__law_begin,
      fd__law_begin := fd__law_begin,
      F__law_begin := F__law_begin,
      b__law_begin := F__law_begin.binds (fun _ _ _ _ _ _ us hl => match us, hl with | [_], _ => rfl),
      g__law_begin := g__law_begin,
      a__law_take := a__law_take,
      fd__law_take := fd__law_take,
      F__law_take := F__law_take,
      b__law_take := F__law_take.binds (fun _ _ _ _ _ _ us hl => match us, hl with | [_, _], _ => rfl),
      g__law_take := g__law_take,
      a__law_pick := a__law_pick,
      fd__law_pick := fd__law_pick,
      F__law_pick := F__law_pick,
      b__law_pick := F__law_pick.binds (fun _ _ _ _ _ _ us hl => match us, hl with | [_, _], _ => rfl),
      g__law_pick := g__law_pick,
      a__law_digest := a__law_digest,
      fd__law_digest := fd__law_digest,
      cd__law_digest := cd__law_digest,
      P__law_digest := P__law_digest,
      F__law_digest := F__law_digest,
      b__law_digest := K43.bind_of F__law_digest (fun _ _ _ _ _ _ us hl => match us, hl with | [_], _ => rfl),
      g__law_digest := g__law_digest,
      a__law_words := a__law_words,
      fd__law_words := fd__law_words,
      F__law_words := F__law_words,
      b__law_words := F__law_words.binds (fun _ _ _ _ _ _ us hl => match us, hl with | [_, _], _ => rfl),
      g__law_words := g__law_words,
      a__law_pool := a__law_pool,
      fd__law_pool := fd__law_pool,
      F__law_pool := F__law_pool,
      b__law_pool := F__law_pool.binds (fun _ _ _ _ _ _ us hl => match us, hl with | [_, _, _], _ => rfl),
      g__law_pool := g__law_pool,
      a__law_next := a__law_next,
      fd__law_next := fd__law_next,
      F__law_next := F__law_next,
      b__law_next := F__law_next.binds (fun _ _ _ _ _ _ us hl => match us, hl with | [_, _, _], _ => rfl),
      g__law_next := g__law_next,
      a__law_given := a__law_given,
      fd__law_given := fd__law_given,
      F__law_given := F__law_given,
      b__law_given := F__law_given.binds (fun _ _ _ _ _ _ us hl => match us, hl with | [_, _, _, _], _ => rfl),
      g__law_given := g__law_given,
      a__law_over := a__law_over,
      fd__law_over := fd__law_over,
      F__law_over := F__law_over,
      b__law_over := F__law_over.binds (fun _ _ _ _ _ _ us hl => match us, hl with | [_, _, _, _], _ => rfl),
      g__law_over := g__law_over,
      a__law_right := a__law_right,
      fd__law_right := fd__law_right,
      F__law_right := F__law_right,
      b__law_right := F__law_right.binds (fun _ _ _ _ _ _ us hl => match us, hl with | [_, _, _, _, _], _ => rfl),
      g__law_right := g__law_right,
      a_law := a_law,
      fd_law := fd_law,
      F_law := F_law,
      b_law := F_law.binds (fun _ _ _ _ _ _ us hl => match us, hl with | [_], _ => rfl),
      g_law := g_law,
      n_isinstance := mg_none_of KX G (by k_is),
      n_bool := mg_none_of KX G (by k_is),
      n_int := mg_none_of KX G (by k_is),
      n_len := mg_none_of KX G (by k_is),
      n_tuple := mg_none_of KX G (by k_is),
      n_all := mg_none_of KX G (by k_is),
      n_zip := mg_none_of KX G (by k_is),
      n_str := mg_none_of KX G (by k_is),
      n_any := mg_none_of KX G (by k_is),
      n_abs := mg_none_of KX G (by k_is),
      n_range := mg_none_of KX G (by k_is),
      n_min := mg_none_of KX G (by k_is),
      n_max := mg_none_of KX G (by k_is),
      v_MOST := v_MOST,
      g_MOST := g_MOST,
      i_MOST := i_MOST,
      v_MOST_LOCK := v_MOST_LOCK,
      g_MOST_LOCK := g_MOST_LOCK,
      i_MOST_LOCK := i_MOST_LOCK,
      v_MOST_PROMISES := v_MOST_PROMISES,
      g_MOST_PROMISES := g_MOST_PROMISES,
      i_MOST_PROMISES := i_MOST_PROMISES,
      v_MOST_HAD := v_MOST_HAD,
      g_MOST_HAD := g_MOST_HAD,
      i_MOST_HAD := i_MOST_HAD,
      v_LETTERS := v_LETTERS,
      g_LETTERS := g_LETTERS,
      i_LETTERS := i_LETTERS,
      v_LONGEST_KEY := v_LONGEST_KEY,
      g_LONGEST_KEY := g_LONGEST_KEY,
      i_LONGEST_KEY := i_LONGEST_KEY,
      a_NoState := a_NoState,
      g_NoState := g_NoState,
      k_NoState := k_NoState,
      x_NoState := x_NoState,
      e_NoState := e_NoState,
      t_NoState := t_NoState,
      m_NoState := m_NoState,
      a_NoSeal := a_NoSeal,
      g_NoSeal := g_NoSeal,
      k_NoSeal := k_NoSeal,
      x_NoSeal := x_NoSeal,
      e_NoSeal := e_NoSeal,
      t_NoSeal := t_NoSeal,
      m_NoSeal := m_NoSeal,
      a_NoMove := a_NoMove,
      g_NoMove := g_NoMove,
      k_NoMove := k_NoMove,
      x_NoMove := x_NoMove,
      e_NoMove := e_NoMove,
      t_NoMove := t_NoMove,
      m_NoMove := m_NoMove,
      a_PARTS_OF := a_PARTS_OF,
      g_PARTS_OF := g_PARTS_OF,
      kt_PARTS_OF := kt_PARTS_OF }
    have e := g_law.symm.trans hmg
    cases e
    refine ⟨fd_law, [(cd__law_digest, P__law_digest)], K43.lspT T, ?c1, ?c2, ?c3, ?c4, ?c5, ?c6⟩
    case c1 => intro p hp; rw [List.mem_singleton.mp hp]; exact t1__law_digest
    case c2 => intro p hp; rw [List.mem_singleton.mp hp]; exact t2__law_digest
    case c3 => intro p hp; rw [List.mem_singleton.mp hp]; exact t3__law_digest
    case c4 =>
      obtain ⟨oc, od, kV, doc, pm, an, cdv, ct, osl, rfl, _, _⟩ := F_law.ex
      exact fun s u => .of_eq rfl
    case c5 => exact fun H a ns hn _ hP hS => K43.start_ok hn (hP _ (List.mem_singleton.mpr rfl)) hS
    case c6 =>
      intro base _ _ TB
      exact K43.ok_law T (TB _ (List.mem_singleton.mpr rfl))

