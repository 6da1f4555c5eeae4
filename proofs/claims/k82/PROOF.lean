import PyProof.Rows.All
import Wide.All
import OpenK.AllK
import Wide.FinOn
import HandS.ForMost
import KE.KDictKeyed
import KE.GoesEnum
import KE.GoesMore
import HandS.Zip
import HandS.More
import HandS.Deep
import HandS.TupAny
import HandS.TupMul
import HandS.TupLe
import HandS.Style
import HandS.Sort
import HandS.SortInts
import HandS.Wide
import HandS.IsInst
import HandS.WordsDict
import HandS.Replace
import HandS.FStr
import HandS.Exc
import HandS.Words
import HandS.Defaults
import HandS.OwnEq
import KE.KExcSuper
import HandS.ExcInit
import HandS.ExcSuper
import HandS.ExcField
import HandS.ExcIs
import HandS.WordsExc
import KE.KExcIs
import HandS.Zip0
import KE.KDictItemsList
import HandS.SetKeys
import HandS.DictComp
import HandS.ListItems
import KE.KDictCopyH
import HandS.TupLen
import HandS.SetFor
import PyProof.StrWalks
import PyProof.Rows.SortShellAny
import HandS.Strs
import HandS.TryOnly
import PyProof.ReprRoads
import PyProof.CallFns
import HandS.Ends
import HandS.Head0
import HandS.Head1
import HandS.Head2
import HandS.HeadEnd
import HandS.HeadHook1
import HandS.HeadHook2
import HandS.HeadHook3
import Wide.Once
import KE.KIndexOf
import PySem.Challenge.RW_loomhold_k82_presses_and_bars_of_any_val
set_option Elab.async false
set_option linter.all false
section
set_option maxRecDepth 100000
/-! TA: tree values over HandS: what a value stands for, the mutable part, steps. -/
namespace TL
open PySem PySem.Spec PyProof.Rows L2

/-- the signs of a written text -/
def lit (s : String) : List Nat := s.toList.map Char.toNat
theorem lit_eq (s : String) : Str.ofString s = ⟨(lit s).toArray⟩ := Str.ofString_eq_toList s

/-- a value as data: a tuple, a list, a dict, an instance that nobody writes any more is told whole; ref: what may be written -/
inductive D where
  | non | bl (b : Bool) | int (i : Int) | str (x : List Nat) | ty (n : String) | ref (a : Addr)
  | tup (xs : List D) | lst (xs : List D) | dic (kvs : List (Key × D)) | ins (C : Addr) (fs : List (Str × D))
  /-- an exception that is held: where it stands, its dict -/
  | xn (a dx : Addr) (fs : List (Str × D))
  /-- a tuple that has no dict (its methods may be asked) -/
  | tun (xs : List D)

mutual
inductive Rep (K : PySem.W.Frag) (F : Hp) : V → D → Prop
  | non : Rep K F .non .non
  | bl (b : Bool) : Rep K F (.bl b) (.bl b)
  | int (i : Int) : Rep K F (.int i) (.int i)
  | str (x : List Nat) : Rep K F (.str ⟨x.toArray⟩) (.str x)
  | ty (n : String) : Rep K F (.ty n) (.ty n)
  | ref (a : Addr) : Rep K F (.ref a) (.ref a)
  | tup {a : Addr} {xs : List V} {ds : List D} : SqT K F a xs → Reps K F xs ds → Rep K F (.ref a) (.tup ds)
  | lst {a : Addr} {xs : List V} {ds : List D} : Rd F a (.lst xs) → Reps K F xs ds → Rep K F (.ref a) (.lst ds)
  | ins {a C dx : Addr} {vfs : List (Str × V)} {fs : List (Str × D)} : F a = some (.ins C dx vfs) → RepF K F vfs fs → Rep K F (.ref a) (.ins C fs)
  | dic {a : Addr} {kvs : List (Key × V)} {ds : List (Key × D)} : F a = some (.dK kvs) → RepK K F kvs ds → Rep K F (.ref a) (.dic ds)
  | xn {a dx : Addr} {vfs : List (Str × V)} {fs : List (Str × D)} : F dx = some (.xd vfs) → RepF K F vfs fs → Rep K F (.ref a) (.xn a dx fs)
  | tun {a : Addr} {o : Obj} {xs : List V} {ds : List D} : F a = some (.frz o (.tup xs)) → o.dict = none → o.cls = .type "tuple" → Reps K F xs ds → Rep K F (.ref a) (.tun ds)
inductive Reps (K : PySem.W.Frag) (F : Hp) : List V → List D → Prop
  | nil : Reps K F [] []
  | cons {v : V} {vs : List V} {d : D} {ds : List D} : Rep K F v d → Reps K F vs ds → Reps K F (v :: vs) (d :: ds)
inductive RepF (K : PySem.W.Frag) (F : Hp) : List (Str × V) → List (Str × D) → Prop
  | nil : RepF K F [] []
  | cons {n : Str} {v : V} {vs : List (Str × V)} {d : D} {ds : List (Str × D)} : Rep K F v d → RepF K F vs ds → RepF K F ((n, v) :: vs) ((n, d) :: ds)
inductive RepK (K : PySem.W.Frag) (F : Hp) : List (Key × V) → List (Key × D) → Prop
  | nil : RepK K F [] []
  | cons {k : Key} {v : V} {vs : List (Key × V)} {d : D} {ds : List (Key × D)} : Rep K F v d → RepK K F vs ds → RepK K F ((k, v) :: vs) ((k, d) :: ds)
end

def Sub (F F' : Hp) : Prop := ∀ a o, F a = some o → F' a = some o
theorem Sub.refl (F : Hp) : Sub F F := fun _ _ h => h
theorem Sub.trans {F G H : Hp} (a : Sub F G) (b : Sub G H) : Sub F H := fun x o h => b x o (a x o h)
theorem Sub.rd {F F' : Hp} (s : Sub F F') {a : Addr} {u : HO} (h : Rd F a u) : Rd F' a u := by
  rcases h with h | ⟨o, h⟩
  · exact .inl (s _ _ h)
  · exact .inr ⟨o, s _ _ h⟩
theorem Sub.sqL {K : PySem.W.Frag} {F F' : Hp} (s : Sub F F') {a : Addr} {xs : List V} (h : SqL K F a xs) : SqL K F' a xs := h.imp s.rd id
theorem Sub.sqT {K : PySem.W.Frag} {F F' : Hp} (s : Sub F F') {a : Addr} {xs : List V} (h : SqT K F a xs) : SqT K F' a xs := h.imp s.rd id
section
variable {K : PySem.W.Frag} {F F' : Hp}
mutual
theorem Rep.mono (s : Sub F F') : ∀ {v : V} {d : D}, Rep K F v d → Rep K F' v d
  | _, _, .non => .non
  | _, _, .bl b => .bl b
  | _, _, .int i => .int i
  | _, _, .str x => .str x
  | _, _, .ty n => .ty n
  | _, _, .ref a => .ref a
  | _, _, .tup h r => .tup (s.sqT h) (Reps.mono s r)
  | _, _, .lst h r => .lst (s.rd h) (Reps.mono s r)
  | _, _, .ins h r => .ins (s _ _ h) (RepF.mono s r)
  | _, _, .dic h r => .dic (s _ _ h) (RepK.mono s r)
  | _, _, .xn h r => .xn (s _ _ h) (RepF.mono s r)
  | _, _, .tun h h1 h2 r => .tun (s _ _ h) h1 h2 (Reps.mono s r)
theorem Reps.mono (s : Sub F F') : ∀ {v : List V} {d : List D}, Reps K F v d → Reps K F' v d
  | _, _, .nil => .nil
  | _, _, .cons h r => .cons (Rep.mono s h) (Reps.mono s r)
theorem RepF.mono (s : Sub F F') : ∀ {v : List (Str × V)} {d : List (Str × D)}, RepF K F v d → RepF K F' v d
  | _, _, .nil => .nil
  | _, _, .cons h r => .cons (Rep.mono s h) (RepF.mono s r)
theorem RepK.mono (s : Sub F F') : ∀ {v : List (Key × V)} {d : List (Key × D)}, RepK K F v d → RepK K F' v d
  | _, _, .nil => .nil
  | _, _, .cons h r => .cons (Rep.mono s h) (RepK.mono s r)
end
theorem Reps.length : ∀ {vs : List V} {ds : List D}, Reps K F vs ds → vs.length = ds.length
  | _, _, .nil => rfl
  | _, _, .cons _ r => congrArg (· + 1) (Reps.length r)
theorem Reps.append : ∀ {vs us : List V} {ds es : List D}, Reps K F vs ds → Reps K F us es → Reps K F (vs ++ us) (ds ++ es)
  | _, _, _, _, .nil, s => s
  | _, _, _, _, .cons h r, s => .cons h (Reps.append r s)
theorem Reps.get : ∀ {vs : List V} {ds : List D} {i : Nat} {d : D}, Reps K F vs ds → ds[i]? = some d → ∃ v, vs[i]? = some v ∧ Rep K F v d
  | _, _, _, _, .nil, e => by simp at e
  | _, _, 0, _, .cons h _, e => by simp at e; subst e; exact ⟨_, rfl, h⟩
  | _, _, i + 1, d, .cons _ r, e => by
    obtain ⟨v, h1, h2⟩ := Reps.get (i := i) (d := d) r (by simpa using e)
    exact ⟨v, by simpa using h1, h2⟩
theorem Reps.get' : ∀ {vs : List V} {ds : List D} {i : Nat} {v : V}, Reps K F vs ds → vs[i]? = some v → ∃ d, ds[i]? = some d ∧ Rep K F v d
  | _, _, _, _, .nil, e => by simp at e
  | _, _, 0, _, .cons h _, e => by simp at e; subst e; exact ⟨_, rfl, h⟩
  | _, _, i + 1, d, .cons _ r, e => by
    obtain ⟨v, h1, h2⟩ := Reps.get' (i := i) (v := d) r (by simpa using e)
    exact ⟨v, by simpa using h1, h2⟩
theorem Reps.take : ∀ {vs : List V} {ds : List D} (n : Nat), Reps K F vs ds → Reps K F (vs.take n) (ds.take n)
  | _, _, 0, _ => .nil
  | _, _, _ + 1, .nil => .nil
  | _, _, n + 1, .cons h r => .cons h (Reps.take n r)
theorem Reps.drop : ∀ {vs : List V} {ds : List D} (n : Nat), Reps K F vs ds → Reps K F (vs.drop n) (ds.drop n)
  | _, _, 0, r => r
  | _, _, _ + 1, .nil => .nil
  | _, _, n + 1, .cons _ r => Reps.drop n r
theorem Reps.reverse {vs : List V} {ds : List D} (h : Reps K F vs ds) : Reps K F vs.reverse ds.reverse := by
  induction vs generalizing ds with
  | nil => cases h; exact .nil
  | cons v r ih =>
    cases h with
    | cons h t =>
      rw [List.reverse_cons, List.reverse_cons]
      exact (ih t).append (.cons h .nil)
theorem Reps.set : ∀ {vs : List V} {ds : List D} (i : Nat) {v : V} {d : D}, Reps K F vs ds → Rep K F v d → Reps K F (vs.set i v) (ds.set i d)
  | _, _, _, _, _, .nil, _ => .nil
  | _, _, 0, _, _, .cons _ r, q => .cons q r
  | _, _, i + 1, _, _, .cons h r, q => .cons h (Reps.set i r q)
theorem RepF.lookup : ∀ {vs : List (Str × V)} {ds : List (Str × D)} {n : Str} {d : D}, RepF K F vs ds → ds.lookup n = some d → ∃ v, vs.lookup n = some v ∧ Rep K F v d
  | _, _, _, _, .nil, e => by simp at e
  | _, _, n, d, .cons (n := m) h r, e => by
    rw [List.lookup_cons] at e ⊢
    cases hb : n == m with
    | true =>
      rw [hb] at e
      cases e
      exact ⟨_, rfl, h⟩
    | false =>
      rw [hb] at e
      exact RepF.lookup r e
theorem RepF.none : ∀ {vs : List (Str × V)} {ds : List (Str × D)} {n : Str}, RepF K F vs ds → ds.lookup n = none → vs.lookup n = none
  | _, _, _, .nil, e => rfl
  | _, _, n, .cons (n := m) h r, e => by
    rw [List.lookup_cons] at e ⊢
    cases hb : n == m with
    | true =>
      rw [hb] at e
      cases e
    | false =>
      rw [hb] at e
      exact RepF.none r e
end

/-- what may be written -/
inductive MO where
  | lst (xs : List D) | dic (kvs : List (Key × D)) | ins (C : Addr) (fs : List (Str × D))
  /-- a dict whose keys are tuples, in the world w -/
  | kd (w : World) (kvs : List (D × D))
abbrev Mp := Addr → Option MO
def mset (M : Mp) (a : Addr) (m : MO) : Mp := fun b => if b = a then some m else M b
def mdel (M : Mp) (a : Addr) : Mp := fun b => if b = a then none else M b
theorem mset_same {M : Mp} {a : Addr} {m : MO} : mset M a m a = some m := by unfold mset; rw [if_pos rfl]
theorem mset_ne {M : Mp} {a b : Addr} {m : MO} (h : b ≠ a) : mset M a m b = M b := by unfold mset; rw [if_neg h]
theorem mdel_same {M : Mp} {a : Addr} : mdel M a a = none := by unfold mdel; rw [if_pos rfl]
theorem mdel_ne {M : Mp} {a b : Addr} (h : b ≠ a) : mdel M a b = M b := by unfold mdel; rw [if_neg h]
theorem mset_mset {M : Mp} {a : Addr} {m n : MO} : mset (mset M a m) a n = mset M a n := by
  funext b; unfold mset; split <;> rfl
theorem mdel_mset {M : Mp} {a : Addr} {m : MO} (h : M a = none) : mdel (mset M a m) a = M := by
  funext b; unfold mdel mset; split
  · rename_i e; rw [e, h]
  · rfl
mutual
/-- what a dict takes as a key -/
def nkey : D → Option NestedKey
  | .non => some .none
  | .bl b => some (.num (if b = true then 1 else 0))
  | .int i => some (.num i)
  | .str x => some (.text ⟨x.toArray⟩)
  | .tup xs => (nkeys xs).map .tup
  | .ty _ | .ref _ | .lst _ | .dic _ | .ins _ _ | .xn _ _ _ | .tun _ => none
def nkeys : List D → Option (List NestedKey)
  | [] => some []
  | d :: ds => match nkey d, nkeys ds with
    | some k, some ks => some (k :: ks)
    | _, _ => none
end
/-- the entries of a dict with tuple keys: the key, where its tuple stands, the value -/
abbrev KX := List (NestedKey × Addr × Value)
def entK (w : World) (x : NestedKey × Addr × Value) : DictEntry := ⟨x.1.hash w, .ref x.2.1, x.2.2⟩
def KDO (w : World) (a : Addr) (xs : KX) : HO := .ext fun h => ∃ o es ep, h.get? a = some o ∧ o.ExactDict ∧ o.data = .dict es ep ∧ es.toList = xs.map (entK w) ∧ (xs.map (·.1)).Nodup ∧ xs.length ≤ sizeLine ∧ (a == sysModules) = false
inductive RepX (K : PySem.W.Frag) (F : Hp) : KX → List (D × D) → Prop
  | nil : RepX K F [] []
  | cons {k : NestedKey} {a : Addr} {u : Value} {v : V} {kd d : D} {xs : KX} {ds : List (D × D)} : nkey kd = some k → k.depth ≤ 8 → Rep K F (.ref a) kd → RelV v u → Rep K F v d → RepX K F xs ds → RepX K F ((k, a, u) :: xs) ((kd, d) :: ds)
theorem RepX.mono {K : PySem.W.Frag} {F F' : Hp} (s : Sub F F') : ∀ {xs : KX} {ds : List (D × D)}, RepX K F xs ds → RepX K F' xs ds
  | _, _, .nil => .nil
  | _, _, .cons a b c d e r => .cons a b (c.mono s) d (e.mono s) (RepX.mono s r)
inductive RepO (K : PySem.W.Frag) (F : Hp) : HO → MO → Prop
  | lst {xs : List V} {ds : List D} : Reps K F xs ds → RepO K F (.lst xs) (.lst ds)
  | dic {kvs : List (Key × V)} {ds : List (Key × D)} : RepK K F kvs ds → RepO K F (.dK kvs) (.dic ds)
  | ins {C dx : Addr} {vfs : List (Str × V)} {fs : List (Str × D)} : RepF K F vfs fs → RepO K F (.ins C dx vfs) (.ins C fs)
  | kd {w : World} {a : Addr} {xs : KX} {ds : List (D × D)} : RepX K F xs ds → RepO K F (KDO w a xs) (.kd w ds)
theorem RepO.mono {K : PySem.W.Frag} {F F' : Hp} (s : Sub F F') {o : HO} {m : MO} (h : RepO K F o m) : RepO K F' o m := by
  cases h with
  | lst r => exact .lst (r.mono s)
  | dic r => exact .dic (r.mono s)
  | ins r => exact .ins (r.mono s)
  | kd r => exact .kd (r.mono s)
/-- F: what nobody writes any more; M: what may be written; all else in H is left alone -/
structure Good (K : PySem.W.Frag) (H F : Hp) (M : Mp) : Prop where
  sub : Sub F H
  dis : ∀ b m, M b = some m → F b = none
  real : ∀ a m, M a = some m → ∃ o, H a = some o ∧ RepO K F o m
section
variable {K : PySem.W.Frag} {H F H' F' H1 F1 H2 F2 : Hp} {M M' M1 M2 : Mp}
theorem Good.free (r : Good K H F M) {p : Addr} (h : H p = none) : M p = none := by
  cases e : M p with
  | none => rfl
  | some m =>
    obtain ⟨o, ho, _⟩ := r.real p m e
    rw [h] at ho; cases ho
theorem Good.freeF (r : Good K H F M) {p : Addr} (h : H p = none) : F p = none := by
  cases e : F p with
  | none => rfl
  | some m =>
    have := r.sub p m e
    rw [h] at this; cases this
structure Stp (K : PySem.W.Frag) (H F : Hp) (M : Mp) (H' F' : Hp) (M' : Mp) : Prop where
  keep : ∀ b o, H b = some o → M b = none → H' b = some o ∧ M' b = none
  sub : Sub F F'
  news : ∀ b o, F' b = some o → F b = some o ∨ M b ≠ none ∨ H b = none
  good : Good K H' F' M'
theorem Stp.refl (r : Good K H F M) : Stp K H F M H F M := ⟨fun _ _ h n => ⟨h, n⟩, Sub.refl F, fun _ _ h => .inl h, r⟩
theorem Stp.trans (a : Stp K H F M H1 F1 M1) (b : Stp K H1 F1 M1 H2 F2 M2) : Stp K H F M H2 F2 M2 := by
  refine ⟨fun x o h n => let ⟨h1, n1⟩ := a.keep x o h n; b.keep x o h1 n1, a.sub.trans b.sub, fun x o h => ?_, b.good⟩
  rcases b.news x o h with h | h | h
  · exact a.news x o h
  · cases e : M x with
    | some m => exact .inr (.inl (by simp))
    | none =>
      cases e2 : H x with
      | none => exact .inr (.inr rfl)
      | some u => exact absurd (a.keep x u e2 e).2 h
  · cases e : M x with
    | some m => exact .inr (.inl (by simp))
    | none =>
      cases e2 : H x with
      | none => exact .inr (.inr rfl)
      | some u => have := (a.keep x u e2 e).1; rw [h] at this; cases this
theorem Stp.rep (a : Stp K H F M H1 F1 M1) {v : V} {d : D} (h : Rep K F v d) : Rep K F1 v d := h.mono a.sub
theorem Stp.reps (a : Stp K H F M H1 F1 M1) {v : List V} {d : List D} (h : Reps K F v d) : Reps K F1 v d := h.mono a.sub
theorem sub_upd {p : Addr} {o : HO} (h : F p = none) : Sub F (upd F p o) := fun b u e => by rw [upd_ne (ne_of_none e h)]; exact e
/-- a new thing that nobody writes -/
theorem Stp.new {p : Addr} {o : HO} (r : Good K H F M) (hp : H p = none) : Stp K H F M (upd H p o) (upd F p o) M := by
  have hM := r.free hp
  have hF := r.freeF hp
  refine ⟨fun b u h n => ⟨by rw [upd_ne (ne_of_none h hp)]; exact h, n⟩, sub_upd hF, fun b u h => ?_, fun b u h => ?_, fun b m h => ?_, fun a m e => ?_⟩
  · by_cases hb : b = p
    · subst hb; exact .inr (.inr hp)
    · rw [upd_ne hb] at h; exact .inl h
  · by_cases hb : b = p
    · subst hb; rw [upd_same] at h ⊢; exact h
    · rw [upd_ne hb] at h ⊢; exact r.sub b u h
  · have hb : b ≠ p := fun e => by rw [e, hM] at h; cases h
    rw [upd_ne hb]; exact r.dis b m h
  · obtain ⟨u, hu, ru⟩ := r.real a m e
    exact ⟨u, by rw [upd_ne (ne_of_none hu hp)]; exact hu, ru.mono (sub_upd hF)⟩
/-- a new thing that may be written -/
theorem Stp.newM {p : Addr} {o : HO} {m : MO} (r : Good K H F M) (hp : H p = none) (ro : RepO K F o m) : Stp K H F M (upd H p o) F (mset M p m) := by
  have hM := r.free hp
  have hF := r.freeF hp
  refine ⟨fun b u h n => ⟨by rw [upd_ne (ne_of_none h hp)]; exact h, by rw [mset_ne (ne_of_none h hp)]; exact n⟩, Sub.refl F, fun b u h => .inl h, (r.sub.trans (sub_upd hp)), fun b m' h => ?_, fun a m' e => ?_⟩
  · by_cases hb : b = p
    · subst hb; exact hF
    · rw [mset_ne hb] at h; exact r.dis b m' h
  · by_cases ha : a = p
    · subst ha
      rw [mset_same] at e; cases e
      exact ⟨o, upd_same, ro⟩
    · rw [mset_ne ha] at e
      obtain ⟨u, hu, ru⟩ := r.real a m' e
      exact ⟨u, by rw [upd_ne ha]; exact hu, ru⟩
/-- a thing is written -/
theorem Stp.write {p : Addr} {o : HO} {m m' : MO} (r : Good K H F M) (hp : M p = some m) (ro : RepO K F o m') : Stp K H F M (upd H p o) F (mset M p m') := by
  have ne : ∀ {b : Addr}, M b = none → b ≠ p := fun {b} h e => by rw [e, hp] at h; cases h
  have hF := r.dis p m hp
  refine ⟨fun b u h n => ⟨by rw [upd_ne (ne n)]; exact h, by rw [mset_ne (ne n)]; exact n⟩, Sub.refl F, fun b u h => .inl h, fun b u h => ?_, fun b m2 h => ?_, fun a m2 e => ?_⟩
  · have hb : b ≠ p := ne_of_none h hF
    rw [upd_ne hb]; exact r.sub b u h
  · by_cases hb : b = p
    · subst hb; exact hF
    · rw [mset_ne hb] at h; exact r.dis b m2 h
  · by_cases ha : a = p
    · subst ha
      rw [mset_same] at e; cases e
      exact ⟨o, upd_same, ro⟩
    · rw [mset_ne ha] at e
      obtain ⟨u, hu, ru⟩ := r.real a m2 e
      exact ⟨u, by rw [upd_ne ha]; exact hu, ru⟩
/-- a thing is written no more -/
theorem Stp.freeze (r : Good K H F M) {p : Addr} {m : MO} {o : HO} (hp : M p = some m) (ho : H p = some o) : Stp K H F M H (upd F p o) (mdel M p) := by
  have no : ∀ {b : Addr}, M b = none → mdel M p b = none := fun {b} h => by
    unfold mdel; split
    · rfl
    · exact h
  have hF := r.dis p m hp
  refine ⟨fun b u h n => ⟨h, no n⟩, sub_upd hF, fun b u h => ?_, fun b u h => ?_, fun b m2 h => ?_, fun a m' e => ?_⟩
  · by_cases hb : b = p
    · subst hb; exact .inr (.inl (by rw [hp]; simp))
    · rw [upd_ne hb] at h; exact .inl h
  · by_cases hb : b = p
    · subst hb; rw [upd_same] at h; rw [ho]; exact h
    · rw [upd_ne hb] at h; exact r.sub b u h
  · have hb : b ≠ p := fun e => by rw [e, mdel_same] at h; cases h
    rw [mdel_ne hb] at h
    rw [upd_ne hb]; exact r.dis b m2 h
  · have ha : a ≠ p := fun z => by rw [z, mdel_same] at e; cases e
    rw [mdel_ne ha] at e
    obtain ⟨u, hu, ru⟩ := r.real a m' e
    exact ⟨u, hu, ru.mono (sub_upd hF)⟩
theorem Good.lst (r : Good K H F M) {p : Addr} {ds : List D} (h : M p = some (.lst ds)) : ∃ vs, H p = some (.lst vs) ∧ Reps K F vs ds := by
  obtain ⟨o, ho, ro⟩ := r.real p _ h
  cases ro with
  | lst q => exact ⟨_, ho, q⟩
theorem Good.dic (r : Good K H F M) {p : Addr} {ds : List (Key × D)} (h : M p = some (.dic ds)) : ∃ vs, H p = some (.dK vs) ∧ RepK K F vs ds := by
  obtain ⟨o, ho, ro⟩ := r.real p _ h
  cases ro with
  | dic q => exact ⟨_, ho, q⟩
theorem Good.ins (r : Good K H F M) {p C : Addr} {fs : List (Str × D)} (h : M p = some (.ins C fs)) : ∃ dx vs, H p = some (.ins C dx vs) ∧ RepF K F vs fs := by
  obtain ⟨o, ho, ro⟩ := r.real p _ h
  cases ro with
  | ins q => exact ⟨_, _, ho, q⟩
/-- a thing that is neither frozen nor to be written (a comprehension's own list) is changed -/
theorem Good.other (r : Good K H F M) {p : Addr} {o : HO} (hF : F p = none) (hM : M p = none) : Good K (upd H p o) F M :=
  ⟨fun b u h => by rw [upd_ne (ne_of_none h hF)]; exact r.sub b u h, r.dis, fun a m e => by
    obtain ⟨u, hu, ru⟩ := r.real a m e
    have ha : a ≠ p := fun z => by rw [z, hM] at e; cases e
    exact ⟨u, by rw [upd_ne ha]; exact hu, ru⟩⟩
end

/-- what the slots hold, as data -/
abbrev En := List (Option D)
structure Sim (K : PySem.W.Frag) (H F : Hp) (M : Mp) (σ : L2.St) (ρ : En) : Prop where
  good : Good K H F M
  slot : ∀ (i : Nat) (d : D), ρ[i]? = some (some d) → ∃ v, σ[i]? = some (some v) ∧ Rep K F v d
  len : σ.length = ρ.length
section
variable {K : PySem.W.Frag} {H F H1 F1 : Hp} {M M1 : Mp} {σ : L2.St} {ρ : En}
theorem Sim.step (S : Sim K H F M σ ρ) (t : Stp K H F M H1 F1 M1) : Sim K H1 F1 M1 σ ρ :=
  ⟨t.good, fun i d e => let ⟨v, h, r⟩ := S.slot i d e; ⟨v, h, t.rep r⟩, S.len⟩
theorem Sim.set (S : Sim K H F M σ ρ) {v : V} {d : D} (i : Nat) (r : Rep K F v d) : Sim K H F M (σ.set i (some v)) (ρ.set i (some d)) := by
  refine ⟨S.good, fun j e h => ?_, by rw [List.length_set, List.length_set]; exact S.len⟩
  by_cases hj : i = j
  · subst hj
    by_cases hi : i < ρ.length
    · rw [List.getElem?_set_self hi] at h
      cases h
      exact ⟨v, List.getElem?_set_self (by rw [S.len]; exact hi), r⟩
    · rw [List.getElem?_eq_none (by rw [List.length_set]; omega)] at h; cases h
  · rw [List.getElem?_set_ne hj] at h
    obtain ⟨u, h1, h2⟩ := S.slot j e h
    exact ⟨u, by rw [List.getElem?_set_ne hj]; exact h1, h2⟩
/-- ρ knows no more than ρ' -/
def Le : En → En → Prop
  | [], [] => True
  | none :: r, _ :: r' => Le r r'
  | some d :: r, some d' :: r' => d = d' ∧ Le r r'
  | _, _ => False
theorem Le.refl : ∀ ρ : En, Le ρ ρ
  | [] => trivial
  | none :: r => Le.refl r
  | some _ :: r => ⟨rfl, Le.refl r⟩
theorem Le.get : ∀ {ρ ρ' : En} {i : Nat} {d : D}, Le ρ ρ' → ρ[i]? = some (some d) → ρ'[i]? = some (some d)
  | [], [], _, _, _, e => by simp at e
  | none :: _, _ :: _, 0, _, _, e => by simp at e
  | some _ :: _, some _ :: _, 0, _, h, e => by
    simp at e ⊢
    rw [← h.1]; exact e
  | none :: r, _ :: r', i + 1, d, h, e => by
    simp at e ⊢
    exact Le.get (ρ := r) (ρ' := r') h (by simpa using e)
  | some _ :: r, some _ :: r', i + 1, d, h, e => by
    simp at e ⊢
    exact Le.get (ρ := r) (ρ' := r') h.2 (by simpa using e)
theorem Le.trans : ∀ {ρ ρ' ρ'' : En}, Le ρ ρ' → Le ρ' ρ'' → Le ρ ρ''
  | [], [], [], _, _ => trivial
  | none :: r, none :: r', _ :: r'', h, h' => Le.trans (ρ := r) (ρ' := r') (ρ'' := r'') h h'
  | none :: r, some _ :: r', some _ :: r'', h, h' => Le.trans (ρ := r) (ρ' := r') (ρ'' := r'') h h'.2
  | some _ :: r, some _ :: r', some _ :: r'', h, h' => ⟨h.1.trans h'.1, Le.trans (ρ := r) (ρ' := r') (ρ'' := r'') h.2 h'.2⟩
theorem Le.length : ∀ {ρ ρ' : En}, Le ρ ρ' → ρ.length = ρ'.length
  | [], [], _ => rfl
  | none :: r, _ :: r', h => congrArg (· + 1) (Le.length (ρ := r) (ρ' := r') h)
  | some _ :: r, some _ :: r', h => congrArg (· + 1) (Le.length (ρ := r) (ρ' := r') h.2)
theorem Sim.le {ρ' : En} (S : Sim K H F M σ ρ') (h : Le ρ ρ') : Sim K H F M σ ρ := ⟨S.good, fun i d e => S.slot i d (h.get e), S.len.trans h.length.symm⟩
end
end TL
end
section
set_option maxRecDepth 100000
/-! TB: what an expression, a test, a list of arguments, a statement does, told over tree values. -/
namespace TL
open PySem PySem.Spec PyProof.Rows L2
abbrev SS := L2.St
abbrev Pins := List (Addr × Obj)
abbrev DQ := D → Mp → Prop

def TEnd (X : Cx) (pins : Pins) (σ : SS) (H F : Hp) (M : Mp) (Q : DQ) (u : Value) (s' : Shared) : Prop :=
  ∃ v H' F' M' d, Inv X pins σ H' s' ∧ RelV v u ∧ Stp X.K H F M H' F' M' ∧ Rep X.K F' v d ∧ Q d M'
def BEnd (X : Cx) (pins : Pins) (σ : SS) (H F : Hp) (M : Mp) (Q : Bool → Mp → Prop) (b : Bool) (s' : Shared) : Prop :=
  ∃ H' F' M', Inv X pins σ H' s' ∧ Stp X.K H F M H' F' M' ∧ Q b M'
def AEnd (X : Cx) (pins : Pins) (σ : SS) (H F : Hp) (M : Mp) (Q : List D → Mp → Prop) (us : List Value) (s' : Shared) : Prop :=
  ∃ vs H' F' M' ds, Inv X pins σ H' s' ∧ Vals vs us ∧ Stp X.K H F M H' F' M' ∧ Reps X.K F' vs ds ∧ Q ds M'

/-- an expression -/
structure WE (X : Cx) (e : Expr) (ρ : En) (M : Mp) (Q : DQ) : Prop where
  run : ∀ (pins : Pins) (s : Shared) (σ : SS) (H F : Hp), Inv X pins σ H s → Sim X.K H F M σ ρ → wpAny (model X.prog X.w) X.A (eval e X.env) (TEnd X pins σ H F M Q) X.xe s
/-- a test -/
structure WT (X : Cx) (e : Expr) (ρ : En) (M : Mp) (Q : Bool → Mp → Prop) : Prop where
  run : ∀ (pins : Pins) (s : Shared) (σ : SS) (H F : Hp), Inv X pins σ H s → Sim X.K H F M σ ρ → wpAny (model X.prog X.w) X.A (isTrue e X.env (eval e X.env)) (BEnd X pins σ H F M Q) X.xe s
/-- a test whatever its whole is (and, or) -/
structure WW (X : Cx) (e : Expr) (ρ : En) (M : Mp) (Q : Bool → Mp → Prop) : Prop where
  run : ∀ (whole : Sem Value) (pins : Pins) (s : Shared) (σ : SS) (H F : Hp), Inv X pins σ H s → Sim X.K H F M σ ρ → wpAny (model X.prog X.w) X.A (isTrue e X.env whole) (BEnd X pins σ H F M Q) X.xe s
/-- arguments, from the left -/
structure WA (X : Cx) (es : List Expr) (ρ : En) (M : Mp) (Q : List D → Mp → Prop) : Prop where
  run : ∀ (pos : Pos) (pins : Pins) (s : Shared) (σ : SS) (H F : Hp), Inv X pins σ H s → Sim X.K H F M σ ρ → wpAny (model X.prog X.w) X.A (spliced (backTo pos (starEach es X.env))) (AEnd X pins σ H F M Q) X.xe s
/-- an operation by the values of its two sides -/
def VO (X : Cx) (f : Value → Value → Sem Value) (x y : D) (M : Mp) (Q : DQ) : Prop :=
  ∀ (pins : Pins) (s : Shared) (σ : SS) (H F : Hp) (v1 v2 : V) (u1 u2 : Value), Inv X pins σ H s → Good X.K H F M → RelV v1 u1 → RelV v2 u2 → Rep X.K F v1 x → Rep X.K F v2 y →
    wpAny (model X.prog X.w) X.A (f u1 u2) (TEnd X pins σ H F M Q) X.xe s
/-- .. of one value -/
def VU (X : Cx) (f : Value → Sem Value) (x : D) (M : Mp) (Q : DQ) : Prop :=
  ∀ (pins : Pins) (s : Shared) (σ : SS) (H F : Hp) (v : V) (u : Value), Inv X pins σ H s → Good X.K H F M → RelV v u → Rep X.K F v x →
    wpAny (model X.prog X.w) X.A (f u) (TEnd X pins σ H F M Q) X.xe s
/-- a built-in called with the values of its arguments -/
def VC (X : Cx) (f : Value) (xs : List D) (M : Mp) (Q : DQ) : Prop :=
  ∀ (pins : Pins) (s : Shared) (σ : SS) (H F : Hp) (vs : List V) (us : List Value), Inv X pins σ H s → Good X.K H F M → Vals vs us → Reps X.K F vs xs →
    wpAny (model X.prog X.w) X.A (call f us) (TEnd X pins σ H F M Q) X.xe s

section
variable {X : Cx} {pins : Pins} {σ : SS} {H F H1 F1 : Hp} {M M1 : Mp} {ρ : En} {s : Shared}
theorem TEnd.back {Q : DQ} {u : Value} {s' : Shared} (t : Stp X.K H F M H1 F1 M1) (h : TEnd X pins σ H1 F1 M1 Q u s') : TEnd X pins σ H F M Q u s' :=
  let ⟨v, H', F', M', d, I, r, t', rp, q⟩ := h; ⟨v, H', F', M', d, I, r, t.trans t', rp, q⟩
theorem TEnd.imp {Q Q' : DQ} {u : Value} {s' : Shared} (h : TEnd X pins σ H F M Q u s') (hq : ∀ d M', Q d M' → Q' d M') : TEnd X pins σ H F M Q' u s' :=
  let ⟨v, H', F', M', d, I, r, t', rp, q⟩ := h; ⟨v, H', F', M', d, I, r, t', rp, hq _ _ q⟩
theorem BEnd.back {Q : Bool → Mp → Prop} {u : Bool} {s' : Shared} (t : Stp X.K H F M H1 F1 M1) (h : BEnd X pins σ H1 F1 M1 Q u s') : BEnd X pins σ H F M Q u s' :=
  let ⟨H', F', M', I, t', q⟩ := h; ⟨H', F', M', I, t.trans t', q⟩
theorem AEnd.back {Q : List D → Mp → Prop} {u : List Value} {s' : Shared} (t : Stp X.K H F M H1 F1 M1) (h : AEnd X pins σ H1 F1 M1 Q u s') : AEnd X pins σ H F M Q u s' :=
  let ⟨v, H', F', M', d, I, r, t', rp, q⟩ := h; ⟨v, H', F', M', d, I, r, t.trans t', rp, q⟩
/-- a value that is the same heap's -/
theorem TEnd.of {Q : DQ} {v : V} {u : Value} {d : D} (I : Inv X pins σ H s) (R : Good X.K H F M) (r : RelV v u) (rp : Rep X.K F v d) (q : Q d M) : TEnd X pins σ H F M Q u s :=
  ⟨v, H, F, M, d, I, r, Stp.refl R, rp, q⟩
theorem BEnd.of {Q : Bool → Mp → Prop} {b : Bool} (I : Inv X pins σ H s) (R : Good X.K H F M) (q : Q b M) : BEnd X pins σ H F M Q b s := ⟨H, F, M, I, Stp.refl R, q⟩

/-! ### from the layer's readings -/
theorem WE.pe {e : Expr} {t : TE} {Q : DQ} (p : PE X e t) (h : ∀ σ H F, Sim X.K H F M σ ρ → t σ H fun v H' => ∃ F' M' d, Stp X.K H F M H' F' M' ∧ Rep X.K F' v d ∧ Q d M') : WE X e ρ M Q :=
  ⟨fun pins s σ H F I S => thn (p.run pins s σ H _ I (h σ H F S)) fun u s' ⟨v, H', I', r, F', M', d, st, rp, q⟩ => ⟨v, H', F', M', d, I', r, st, rp, q⟩⟩
theorem VO.op {f : Value → Value → Sem Value} {r : R2} {x y : D} {Q : DQ} (p : OpR X f r)
    (h : ∀ H F v1 v2, Good X.K H F M → Rep X.K F v1 x → Rep X.K F v2 y → r v1 v2 H fun v H' => ∃ F' M' d, Stp X.K H F M H' F' M' ∧ Rep X.K F' v d ∧ Q d M') : VO X f x y M Q :=
  fun pins s σ H F v1 v2 u1 u2 I R r1 r2 p1 p2 => thn (p pins s σ H v1 v2 u1 u2 _ I r1 r2 (h H F v1 v2 R p1 p2)) fun u s' ⟨v, H', I', r, F', M', d, st, rp, q⟩ => ⟨v, H', F', M', d, I', r, st, rp, q⟩
theorem VC.call {f : Value} {r : List V → Hp → VK → Prop} {xs : List D} {Q : DQ} (p : CallR X f r)
    (h : ∀ H F vs, Good X.K H F M → Reps X.K F vs xs → r vs H fun v H' => ∃ F' M' d, Stp X.K H F M H' F' M' ∧ Rep X.K F' v d ∧ Q d M') : VC X f xs M Q :=
  fun pins s σ H F vs us I R r1 p1 => thn (p pins s σ H vs us _ I r1 (h H F vs R p1)) fun u s' ⟨v, H', I', r, F', M', d, st, rp, q⟩ => ⟨v, H', F', M', d, I', r, st, rp, q⟩

/-! ### small expressions -/
variable {Q : DQ} {x : Str} {pos : Pos}
theorem WE.var (i : Nat) {d : D} (hd : ρ[i]? = some (some d)) (h : Q d M) (hN : X.N[i]? = some x := by rfl) (hv : Vis X.env.scope x := by first | exact Or.inl rfl | exact Or.inr (Or.inl rfl) | exact Or.inr (Or.inr rfl))
    (hdb : (x == ("__debug__" : Str)) = false := by decide) (hcd : (x == ("__classdict__" : Str)) = false := by decide) : WE X (.Name x pos) ρ M Q :=
  .pe (pe_var hN hv hdb hcd) fun σ H F S => let ⟨v, h1, h2⟩ := S.slot i d hd; ⟨v, h1, F, M, d, Stp.refl S.good, h2, h⟩
theorem WE.int {i : Int} {j} (h : Q (.int i) M) : WE X (.Constant (.int i) j pos) ρ M Q := .pe pe_int fun σ H F S => ⟨F, M, _, Stp.refl S.good, .int i, h⟩
theorem WE.bl {i : Bool} {j} (h : Q (.bl i) M) : WE X (.Constant (.bool i) j pos) ρ M Q := .pe pe_bl fun σ H F S => ⟨F, M, _, Stp.refl S.good, .bl i, h⟩
theorem WE.non {j} (h : Q .non M) : WE X (.Constant .none j pos) ρ M Q := .pe pe_non fun σ H F S => ⟨F, M, _, Stp.refl S.good, .non, h⟩
theorem WE.str {t : String} {j} (h : Q (.str (lit t)) M) : WE X (.Constant (.str (Str.ofString t)) j pos) ρ M Q :=
  .pe pe_str fun σ H F S => ⟨F, M, _, Stp.refl S.good, by rw [lit_eq]; exact .str _, h⟩
/-- a module's constant -/
theorem WE.glob {v : V} {u : Value} {d : D} (hm : X.mg x = some u) (r : RelV v u) (rp : ∀ F : Hp, Rep X.K F v d) (h : Q d M) (hg : Gl X x := by rfl) (hd : (x == ("__debug__" : Str)) = false := by decide) : WE X (.Name x pos) ρ M Q :=
  .pe (pe_glob hg hm r hd) fun σ H F S => ⟨F, M, d, Stp.refl S.good, rp _, h⟩

/-- two expressions in a row -/
theorem two {a b : Expr} {P : D → D → Mp → Prop} (I : Inv X pins σ H s) (S : Sim X.K H F M σ ρ) (h : WE X a ρ M fun x M1 => WE X b ρ M1 fun y M2 => P x y M2) {α : Type} {R : α → Shared → Prop} {f : Value → Value → Sem α}
    (hf : ∀ u1 u2 s2 v1 v2 x y H2 F2 M2, Inv X pins σ H2 s2 → Stp X.K H F M H2 F2 M2 → RelV v1 u1 → RelV v2 u2 → Rep X.K F2 v1 x → Rep X.K F2 v2 y → P x y M2 → wpAny (model X.prog X.w) X.A (f u1 u2) R X.xe s2) :
    wpAny (model X.prog X.w) X.A (eval a X.env) (fun u1 s₁ => wpAny (model X.prog X.w) X.A (eval b X.env) (fun u2 s₂ => wpAny (model X.prog X.w) X.A (f u1 u2) R X.xe s₂) X.xe s₁) X.xe s := by
  refine thn (h.run pins s σ H F I S) fun u1 s1 ⟨v1, H1, F1, M1, x, I1, r1, t1, p1, q1⟩ => ?_
  refine thn (q1.run pins s1 σ H1 F1 I1 (S.step t1)) fun u2 s2 ⟨v2, H2, F2, M2, y, I2, r2, t2, p2, q2⟩ => ?_
  exact hf u1 u2 s2 v1 v2 x y H2 F2 M2 I2 (t1.trans t2) r1 r2 (t2.rep p1) p2 q2
variable {a b c : Expr}
theorem WE.bin {op : Operator} (h : WE X a ρ M fun x M1 => WE X b ρ M1 fun y M2 => VO X (binaryOp op) x y M2 Q) : WE X (.BinOp a op b pos) ρ M Q :=
  ⟨fun pins s σ H F I S => wpAny_BinOp (two I S h fun u1 u2 s2 v1 v2 x y H2 F2 M2 I2 t r1 r2 p1 p2 q => thn (q pins s2 σ H2 F2 v1 v2 u1 u2 I2 t.good r1 r2 p1 p2) fun _ _ e => e.back t)⟩
theorem WE.cmp {op : CmpOp} (h : WE X a ρ M fun x M1 => WE X b ρ M1 fun y M2 => VO X (compareOp op) x y M2 Q) (hm : behindInMarks op b = false := by first | exact nomark _ | with_unfolding_all rfl) : WE X (.Compare a [op] [b] pos) ρ M Q :=
  ⟨fun pins s σ H F I S => wpAny_Compare1 (two I S h fun u1 u2 s2 v1 v2 x y H2 F2 M2 I2 t r1 r2 p1 p2 q => thn (q pins s2 σ H2 F2 v1 v2 u1 u2 I2 t.good r1 r2 p1 p2) fun _ _ e => e.back t) hm⟩
theorem WE.chain {op op' : CmpOp} (h : WE X a ρ M fun x M1 => WE X b ρ M1 fun y M2 => VO X (compareOp op) x y M2 fun z M3 => ∃ k, z = .bl k ∧ (k = false → Q (.bl false) M3) ∧ (k = true → WE X c ρ M3 fun w M4 => VO X (compareOp op') y w M4 Q))
    (hm : lastMarks [op, op'] [b, c] = false := by with_unfolding_all rfl) : WE X (.Compare a [op, op'] [b, c] pos) ρ M Q := by
  refine ⟨fun pins s σ H F I S => ?_⟩
  refine Compare_chain (thn (h.run pins s σ H F I S) fun v s1 ⟨x1, H1, F1, M1, x, I1, r1, t1, p1, q1⟩ => chain_link (thn (q1.run pins s1 σ H1 F1 I1 (S.step t1)) fun u s2 ⟨x2, H2, F2, M2, y, I2, r2, t2, p2, q2⟩ =>
    thn (q2 pins s2 σ H2 F2 x1 x2 v u I2 t2.good r1 r2 (t2.rep p1) p2) fun d s3 ⟨x3, H3, F3, M3, z, I3, r3, t3, p3, k, e, q3, q4⟩ => ?_)) hm
  subst e
  cases p3
  cases r3
  refine wpAny_truthy_bool ?_
  have t := (t1.trans t2).trans t3
  cases k with
  | false => exact ite_ff ⟨.bl false, H3, F3, M3, _, I3, rfl, t, .bl _, q3 rfl⟩
  | true => exact ite_tt (chain_last (thn ((q4 rfl).run pins s3 σ H3 F3 I3 (S.step t)) fun w' s4 ⟨x4, H4, F4, M4, w, I4, r4, t4, p4, q5⟩ =>
      thn (q5 pins s4 σ H4 F4 x2 x4 u w' I4 t4.good r2 r4 ((t3.trans t4).rep p2) p4) fun _ _ e => e.back (t.trans t4)))

/-! ### tests -/
variable {QB : Bool → Mp → Prop}
theorem WT.cmp {op : CmpOp} (h : WE X a ρ M fun x M1 => WE X b ρ M1 fun y M2 => VO X (compareOp op) x y M2 fun z M3 => ∃ k, z = .bl k ∧ QB k M3) (hm : behindInMarks op b = false := by first | exact nomark _ | with_unfolding_all rfl) : WT X (.Compare a [op] [b] pos) ρ M QB := by
  refine ⟨fun pins s σ H F I S => ?_⟩
  refine wpAny_isTrue_Compare1 (two I S h fun u1 u2 s2 v1 v2 x y H2 F2 M2 I2 t r1 r2 p1 p2 q => thn (q pins s2 σ H2 F2 v1 v2 u1 u2 I2 t.good r1 r2 p1 p2) fun c s3 ⟨x3, H3, F3, M3, z, I3, r3, t3, p3, k, e, q3⟩ => ?_) hm
  subst e
  cases p3
  cases r3
  exact wpAny_truthy_bool ⟨H3, F3, M3, I3, t.trans t3, q3⟩
theorem WT.chain {op op' : CmpOp} (h : WE X a ρ M fun x M1 => WE X b ρ M1 fun y M2 => VO X (compareOp op) x y M2 fun z M3 => ∃ k, z = .bl k ∧ (k = false → QB false M3) ∧ (k = true → WE X c ρ M3 fun w M4 => VO X (compareOp op') y w M4 fun z M5 => ∃ k, z = .bl k ∧ QB k M5))
    (hm : lastMarks [op, op'] [b, c] = false := by with_unfolding_all rfl) : WT X (.Compare a [op, op'] [b, c] pos) ρ M QB := by
  refine ⟨fun pins s σ H F I S => ?_⟩
  refine isTrue_chain (thn (h.run pins s σ H F I S) fun v s1 ⟨x1, H1, F1, M1, x, I1, r1, t1, p1, q1⟩ => test_link (thn (q1.run pins s1 σ H1 F1 I1 (S.step t1)) fun u s2 ⟨x2, H2, F2, M2, y, I2, r2, t2, p2, q2⟩ =>
    thn (q2 pins s2 σ H2 F2 x1 x2 v u I2 t2.good r1 r2 (t2.rep p1) p2) fun d s3 ⟨x3, H3, F3, M3, z, I3, r3, t3, p3, k, e, q3, q4⟩ => ?_)) hm
  subst e
  cases p3
  cases r3
  refine wpAny_truthy_bool ?_
  have t := (t1.trans t2).trans t3
  cases k with
  | false => exact ite_ff ⟨H3, F3, M3, I3, t, q3 rfl⟩
  | true => 
    refine ite_tt (test_last (thn ((q4 rfl).run pins s3 σ H3 F3 I3 (S.step t)) fun w' s4 ⟨x4, H4, F4, M4, w, I4, r4, t4, p4, q5⟩ =>
      thn (q5 pins s4 σ H4 F4 x2 x4 u w' I4 t4.good r2 r4 ((t3.trans t4).rep p2) p4) fun d' s5 ⟨x5, H5, F5, M5, z, I5, r5, t5, p5, k, e, q6⟩ => ?_))
    subst e
    cases p5
    cases r5
    exact wpAny_truthy_bool ⟨H5, F5, M5, I5, (t.trans t4).trans t5, q6⟩
/-- an expression whose value is a bool -/
theorem WT.val {e : Expr} (h : WE X e ρ M fun z M1 => ∃ k, z = .bl k ∧ QB k M1) (he : ∀ whole, isTrue e X.env whole = (do let v ← whole; standAt e.pos; holding [v] (truthy v)) := by intro _; rfl) : WT X e ρ M QB := by
  refine ⟨fun pins s σ H F I S => ?_⟩
  refine isTrue_plain (thn (h.run pins s σ H F I S) fun v s1 ⟨x1, H1, F1, M1, z, I1, r1, t1, p1, k, e, q1⟩ => ?_) (he _)
  subst e
  cases p1
  cases r1
  exact wpAny_truthy_bool ⟨H1, F1, M1, I1, t1, q1⟩
variable {rest : List Expr}
theorem WT.not (h : WT X a ρ M fun k M1 => QB (!k) M1) : WT X (.UnaryOp .Not a pos) ρ M QB := by
  refine ⟨fun pins s σ H F I S => ?_⟩
  exact isTrue_not (thn (h.run pins s σ H F I S) fun k s1 ⟨H1, F1, M1, I1, t1, q⟩ => ⟨H1, F1, M1, I1, t1, q⟩)
theorem WW.and1 (h : WT X a ρ M QB) : WW X (.BoolOp .And [a] pos) ρ M QB := by
  refine ⟨fun wh pins s σ H F I S => ?_⟩
  refine isTrue_and (thn (h.run pins s σ H F I S) fun c s1 e => ?_)
  cases c with
  | true => exact isTrue_and_nil e
  | false => exact e
theorem WW.or1 (h : WT X a ρ M QB) : WW X (.BoolOp .Or [a] pos) ρ M QB := by
  refine ⟨fun wh pins s σ H F I S => ?_⟩
  refine isTrue_or (thn (h.run pins s σ H F I S) fun c s1 e => ?_)
  cases c with
  | false => exact isTrue_or_nil e
  | true => exact e
theorem WW.and (h : WT X a ρ M fun k M1 => (k = false → QB false M1) ∧ (k = true → WW X (.BoolOp .And (b :: rest) pos) ρ M1 QB)) : WW X (.BoolOp .And (a :: b :: rest) pos) ρ M QB := by
  refine ⟨fun wh pins s σ H F I S => ?_⟩
  refine isTrue_and (thn (h.run pins s σ H F I S) fun c s1 ⟨H1, F1, M1, I1, t1, q1, q2⟩ => ?_)
  cases c with
  | true => exact thn ((q2 rfl).run wh pins s1 σ H1 F1 I1 (S.step t1)) fun _ _ e => e.back t1
  | false => exact ⟨H1, F1, M1, I1, t1, q1 rfl⟩
theorem WW.or (h : WT X a ρ M fun k M1 => (k = true → QB true M1) ∧ (k = false → WW X (.BoolOp .Or (b :: rest) pos) ρ M1 QB)) : WW X (.BoolOp .Or (a :: b :: rest) pos) ρ M QB := by
  refine ⟨fun wh pins s σ H F I S => ?_⟩
  refine isTrue_or (thn (h.run pins s σ H F I S) fun c s1 ⟨H1, F1, M1, I1, t1, q1, q2⟩ => ?_)
  cases c with
  | false => exact thn ((q2 rfl).run wh pins s1 σ H1 F1 I1 (S.step t1)) fun _ _ e => e.back t1
  | true => exact ⟨H1, F1, M1, I1, t1, q1 rfl⟩
theorem WT.ww {e : Expr} (h : WW X e ρ M QB) : WT X e ρ M QB := ⟨fun pins s σ H F I S => h.run _ pins s σ H F I S⟩
/-! ### and, or, not as values (of bools) -/
theorem WE.one {op} (h : WE X a ρ M Q) : WE X (.BoolOp op [a] pos) ρ M Q := ⟨fun pins s σ H F I S => BoolOp_one (h.run pins s σ H F I S)⟩
theorem WE.and (h : WE X a ρ M fun z M1 => ∃ k, z = .bl k ∧ (k = false → Q (.bl false) M1) ∧ (k = true → WE X (.BoolOp .And (b :: rest) pos) ρ M1 Q)) : WE X (.BoolOp .And (a :: b :: rest) pos) ρ M Q := by
  refine ⟨fun pins s σ H F I S => ?_⟩
  refine BoolOp_and (thn (h.run pins s σ H F I S) fun v s1 ⟨x1, H1, F1, M1, z, I1, r1, t1, p1, k, e, q1, q2⟩ => ?_)
  subst e
  cases p1
  cases r1
  refine wpAny_truthy_bool ?_
  cases k with
  | true => exact thn ((q2 rfl).run pins s1 σ H1 F1 I1 (S.step t1)) fun _ _ e => e.back t1
  | false => exact ⟨.bl false, H1, F1, M1, _, I1, rfl, t1, .bl _, q1 rfl⟩
theorem WE.or (h : WE X a ρ M fun z M1 => ∃ k, z = .bl k ∧ (k = true → Q (.bl true) M1) ∧ (k = false → WE X (.BoolOp .Or (b :: rest) pos) ρ M1 Q)) : WE X (.BoolOp .Or (a :: b :: rest) pos) ρ M Q := by
  refine ⟨fun pins s σ H F I S => ?_⟩
  refine BoolOp_or (thn (h.run pins s σ H F I S) fun v s1 ⟨x1, H1, F1, M1, z, I1, r1, t1, p1, k, e, q1, q2⟩ => ?_)
  subst e
  cases p1
  cases r1
  refine wpAny_truthy_bool ?_
  cases k with
  | false => exact thn ((q2 rfl).run pins s1 σ H1 F1 I1 (S.step t1)) fun _ _ e => e.back t1
  | true => exact ⟨.bl true, H1, F1, M1, _, I1, rfl, t1, .bl _, q1 rfl⟩
theorem WE.not (h : WE X a ρ M fun z M1 => ∃ k, z = .bl k ∧ Q (.bl (!k)) M1) : WE X (.UnaryOp .Not a pos) ρ M Q := by
  refine ⟨fun pins s σ H F I S => ?_⟩
  refine UnaryOp_ (thn (h.run pins s σ H F I S) fun v s1 ⟨x1, H1, F1, M1, z, I1, r1, t1, p1, k, e, q1⟩ => ?_)
  subst e
  cases p1
  cases r1
  exact not_of (wpAny_truthy_bool ⟨.bl (!k), H1, F1, M1, _, I1, rfl, t1, .bl _, q1⟩)
theorem WE.ife (h : WT X c ρ M fun k M1 => (k = true → WE X a ρ M1 Q) ∧ (k = false → WE X b ρ M1 Q)) : WE X (.IfExp c a b pos) ρ M Q := by
  refine ⟨fun pins s σ H F I S => ?_⟩
  refine wpAny_IfExp (thn (h.run pins s σ H F I S) fun d s1 ⟨H1, F1, M1, I1, t1, q1, q2⟩ => ?_)
  cases d with
  | true => exact thn ((q1 rfl).run pins s1 σ H1 F1 I1 (S.step t1)) fun _ _ e => e.back t1
  | false => exact thn ((q2 rfl).run pins s1 σ H1 F1 I1 (S.step t1)) fun _ _ e => e.back t1

/-! ### arguments, displays -/
variable {QA : List D → Mp → Prop} {e : Expr} {es : List Expr}
theorem WA.nil (h : QA [] M) : WA X [] ρ M QA := ⟨fun _ _ _ _ H F I S => Calls.spliced_nil ⟨[], H, F, M, [], I, .nil, Stp.refl S.good, .nil, h⟩⟩
theorem WA.cons (h : WE X e ρ M fun x M1 => WA X es ρ M1 fun xs M2 => QA (x :: xs) M2) (hs : starEach (e :: es) X.env = (false, eval e X.env) :: starEach es X.env := by rfl) : WA X (e :: es) ρ M QA := by
  refine ⟨fun pos pins s σ H F I S => ?_⟩
  rw [hs]
  show wpAny _ _ (spliced ((false, eval e X.env) :: backTo pos (starEach es X.env))) _ _ s
  refine Calls.spliced_cons (thn (h.run pins s σ H F I S) fun u s1 ⟨x, H1, F1, M1, d, I1, r1, t1, p1, q1⟩ => ?_)
  exact thn (q1.run pos pins s1 σ H1 F1 I1 (S.step t1)) fun us s2 ⟨xs, H2, F2, M2, ds, I2, r2, t2, p2, q2⟩ => ⟨x :: xs, H2, F2, M2, d :: ds, I2, .cons r1 r2, t1.trans t2, .cons (t2.rep p1) p2, q2⟩
theorem WE.tuple {k} (h : WA X es ρ M fun xs M1 => xs.length ≤ sizeLine ∧ Q (.tup xs) M1) : WE X (.Tuple es k pos) ρ M Q := by
  refine ⟨fun pins s σ H F I S => ?_⟩
  refine wpAny_Tuple_spliced (thn (h.run pos pins s σ H F I S) fun us s1 ⟨xs, H1, F1, M1, ds, I1, r, t1, p1, z, q⟩ => ?_)
  have hl : us.length = ds.length := r.length.symm.trans p1.length
  refine ⟨by rw [hl]; exact z, ?_⟩
  have hf : H1 s1.heap.objs.size = none := I1.hok.fresh (Nat.le_refl _)
  have t2 := Stp.new (o := .tup xs) t1.good hf
  refine ⟨.ref s1.heap.objs.size, upd H1 s1.heap.objs.size (.tup xs), upd F1 s1.heap.objs.size (.tup xs), M1, _, I1.laid (t' := s1.toks) (fun b u e => Heap.get?_push_of_some _ e) (Nat.le_refl _) ?_, rfl, t1.trans t2, .tup (.of ?_) (t2.reps p1), q⟩
  · exact ⟨by rw [p1.length]; exact z, us, r, ⟨_, Heap.get?_push_size _ rfl, rfl, _, rfl⟩⟩
  · exact upd_same
/-- a list that nobody writes -/
theorem WE.list (h : WA X es ρ M fun xs M1 => xs.length ≤ sizeLine ∧ Q (.lst xs) M1) : WE X (.List es pos) ρ M Q := by
  refine ⟨fun pins s σ H F I S => ?_⟩
  refine wpAny_List_spliced (thn (h.run pos pins s σ H F I S) fun us s1 ⟨xs, H1, F1, M1, ds, I1, r, t1, p1, z, q⟩ => ?_)
  have hl : us.length = ds.length := r.length.symm.trans p1.length
  refine ⟨by rw [hl]; exact z, ?_⟩
  have hf : H1 s1.heap.objs.size = none := I1.hok.fresh (Nat.le_refl _)
  have t2 := Stp.new (o := .lst xs) t1.good hf
  refine ⟨.ref s1.heap.objs.size, upd H1 s1.heap.objs.size (.lst xs), upd F1 s1.heap.objs.size (.lst xs), M1, _, I1.laid (t' := s1.toks) (fun b u e => Heap.get?_push_of_some _ e) (Nat.le_refl _) ?_, rfl, t1.trans t2, .lst (.of ?_) (t2.reps p1), q⟩
  · exact ⟨by rw [p1.length]; exact z, us, 0, r, Heap.get?_push_size _ rfl⟩
  · exact upd_same
/-- a list that will be written -/
theorem WE.listM (h : WA X es ρ M fun xs M1 => xs.length ≤ sizeLine ∧ ∀ p, M1 p = none → Q (.ref p) (mset M1 p (.lst xs))) : WE X (.List es pos) ρ M Q := by
  refine ⟨fun pins s σ H F I S => ?_⟩
  refine wpAny_List_spliced (thn (h.run pos pins s σ H F I S) fun us s1 ⟨xs, H1, F1, M1, ds, I1, r, t1, p1, z, q⟩ => ?_)
  have hl : us.length = ds.length := r.length.symm.trans p1.length
  refine ⟨by rw [hl]; exact z, ?_⟩
  have hf : H1 s1.heap.objs.size = none := I1.hok.fresh (Nat.le_refl _)
  have t2 := Stp.newM t1.good hf (.lst p1)
  refine ⟨.ref s1.heap.objs.size, upd H1 s1.heap.objs.size (.lst xs), F1, _, _, I1.laid (t' := s1.toks) (fun b u e => Heap.get?_push_of_some _ e) (Nat.le_refl _) ?_, rfl, t1.trans t2, .ref _, q _ (t1.good.free hf)⟩
  exact ⟨by rw [p1.length]; exact z, us, 0, r, Heap.get?_push_size _ rfl⟩
end
end TL
end
section
set_option maxRecDepth 100000
/-! TC: statements, targets, loops, comprehensions, over tree values. -/
namespace TL
open PySem PySem.Spec PyProof.Rows L2

/-- what is wanted behind a statement -/
structure TEs where
  nx : En → Mp → Prop
  rt : DQ
  bk : En → Mp → Prop := fun _ _ => False
  ct : En → Mp → Prop := fun _ _ => False

def NEnd (X : Cx) (H F : Hp) (M : Mp) (R : En → Mp → Prop) (σ' : SS) (H' : Hp) : Prop := ∃ F' M' ρ', Stp X.K H F M H' F' M' ∧ Sim X.K H' F' M' σ' ρ' ∧ R ρ' M'
def REnd (X : Cx) (H F : Hp) (M : Mp) (Q : DQ) (v : V) (H' : Hp) : Prop := ∃ F' M' d, Stp X.K H F M H' F' M' ∧ Rep X.K F' v d ∧ Q d M'
def TEs.ends (X : Cx) (H F : Hp) (M : Mp) (E : TEs) : Ends := { nx := NEnd X H F M E.nx, rt := REnd X H F M E.rt, bk := NEnd X H F M E.bk, ct := NEnd X H F M E.ct }
theorem NEnd.back {X : Cx} {H F H1 F1 : Hp} {M M1 : Mp} {R : En → Mp → Prop} {σ' : SS} {H' : Hp} (t : Stp X.K H F M H1 F1 M1) (h : NEnd X H1 F1 M1 R σ' H') : NEnd X H F M R σ' H' :=
  let ⟨F', M', ρ', t', S, r⟩ := h; ⟨F', M', ρ', t.trans t', S, r⟩
theorem REnd.back {X : Cx} {H F H1 F1 : Hp} {M M1 : Mp} {Q : DQ} {v : V} {H' : Hp} (t : Stp X.K H F M H1 F1 M1) (h : REnd X H1 F1 M1 Q v H') : REnd X H F M Q v H' :=
  let ⟨F', M', d, t', S, r⟩ := h; ⟨F', M', d, t.trans t', S, r⟩

/-- a block; a statement; a target -/
structure WSs (X : Cx) (sts : List Stmt) (ρ : En) (M : Mp) (E : TEs) : Prop where
  run : ∀ (pins : Pins) (s : Shared) (σ : SS) (H F : Hp), Inv X pins σ H s → Sim X.K H F M σ ρ → wpAny (model X.prog X.w) X.A (execs sts X.env) (SP X pins (E.ends X H F M)) X.xe s
structure WS (X : Cx) (st : Stmt) (ρ : En) (M : Mp) (E : TEs) : Prop where
  run : ∀ (pins : Pins) (s : Shared) (σ : SS) (H F : Hp), Inv X pins σ H s → Sim X.K H F M σ ρ → wpAny (model X.prog X.w) X.A (exec st X.env) (SP X pins (E.ends X H F M)) X.xe s
structure WG (X : Cx) (tg : Expr) (x : D) (ρ : En) (M : Mp) (R : En → Mp → Prop) : Prop where
  run : ∀ (pins : Pins) (s : Shared) (σ : SS) (H F : Hp) (v : V) (u : Value), Inv X pins σ H s → Sim X.K H F M σ ρ → RelV v u → Rep X.K F v x →
    wpAny (model X.prog X.w) X.A (assign tg X.env u) (fun _ s' => ∃ σ' H', Inv X pins σ' H' s' ∧ NEnd X H F M R σ' H') X.xe s
structure WGs (X : Cx) (ts : List Expr) (xs : List D) (ρ : En) (M : Mp) (R : En → Mp → Prop) : Prop where
  run : ∀ (pins : Pins) (s : Shared) (σ : SS) (H F : Hp) (vs : List V) (us : List Value), Inv X pins σ H s → Sim X.K H F M σ ρ → Vals vs us → Reps X.K F vs xs →
    wpAny (model X.prog X.w) X.A (assignInOrder ((assignEach ts X.env).map (·.2)) us) (fun _ s' => ∃ σ' H', Inv X pins σ' H' s' ∧ NEnd X H F M R σ' H') X.xe s

theorem SP.imp {X : Cx} {pins : Pins} {D D' : Ends} {f : Flow} {s' : Shared} (h : SP X pins D f s') (h1 : ∀ σ H, D.nx σ H → D'.nx σ H) (h2 : ∀ v H, D.rt v H → D'.rt v H) (h3 : ∀ σ H, D.bk σ H → D'.bk σ H) (h4 : ∀ σ H, D.ct σ H → D'.ct σ H) : SP X pins D' f s' := by
  cases f with
  | next => obtain ⟨σ, H, I, q⟩ := h; exact ⟨σ, H, I, h1 _ _ q⟩
  | brk => obtain ⟨σ, H, I, q⟩ := h; exact ⟨σ, H, I, h3 _ _ q⟩
  | cont => obtain ⟨σ, H, I, q⟩ := h; exact ⟨σ, H, I, h4 _ _ q⟩
  | ret u => obtain ⟨v, σ, H, I, r, q⟩ := h; exact ⟨v, σ, H, I, r, h2 _ _ q⟩
theorem SP.back {X : Cx} {pins : Pins} {H F H1 F1 : Hp} {M M1 : Mp} {E : TEs} {f : Flow} {s' : Shared} (t : Stp X.K H F M H1 F1 M1) (h : SP X pins (E.ends X H1 F1 M1) f s') : SP X pins (E.ends X H F M) f s' :=
  SP.imp h (fun _ _ q => q.back t) (fun _ _ q => q.back t) (fun _ _ q => q.back t) (fun _ _ q => q.back t)

section
variable {X : Cx} {pins : Pins} {σ : SS} {H F H1 F1 : Hp} {M M1 : Mp} {ρ ρ' : En} {s : Shared} {E : TEs} {sts rest : List Stmt} {st : Stmt} {pos : Pos} {e : Expr}
theorem WSs.pss {t : TS} (p : PSs X sts t) (h : ∀ σ H F, Sim X.K H F M σ ρ → t (E.ends X H F M) σ H) : WSs X sts ρ M E := ⟨fun pins s σ H F I S => p.run pins s σ H _ I (h σ H F S)⟩
theorem WS.ps {t : TS} (p : PS X st t) (h : ∀ σ H F, Sim X.K H F M σ ρ → t (E.ends X H F M) σ H) : WS X st ρ M E := ⟨fun pins s σ H F I S => p.run pins s σ H _ I (h σ H F S)⟩
theorem WSs.le (h : WSs X sts ρ M E) (l : Le ρ ρ') : WSs X sts ρ' M E := ⟨fun pins s σ H F I S => h.run pins s σ H F I (S.le l)⟩
theorem WSs.imp {E' : TEs} (h : WSs X sts ρ M E) (h1 : ∀ ρ M, E.nx ρ M → E'.nx ρ M) (h2 : ∀ d M, E.rt d M → E'.rt d M) (h3 : ∀ ρ M, E.bk ρ M → E'.bk ρ M) (h4 : ∀ ρ M, E.ct ρ M → E'.ct ρ M) : WSs X sts ρ M E' :=
  ⟨fun pins s σ H F I S => thn (h.run pins s σ H F I S) fun f s' q => SP.imp q (fun _ _ ⟨a, b, c, d, e, r⟩ => ⟨a, b, c, d, e, h1 _ _ r⟩) (fun _ _ ⟨a, b, c, d, e, r⟩ => ⟨a, b, c, d, e, h2 _ _ r⟩) (fun _ _ ⟨a, b, c, d, e, r⟩ => ⟨a, b, c, d, e, h3 _ _ r⟩) (fun _ _ ⟨a, b, c, d, e, r⟩ => ⟨a, b, c, d, e, h4 _ _ r⟩)⟩
/-- the i-th name's list is written no more -/
theorem WSs.freeze (i : Nat) {a : Addr} {ds : List D} (hi : ρ[i]? = some (some (.ref a))) (hm : M a = some (.lst ds)) (h : WSs X sts (ρ.set i (some (.lst ds))) (mdel M a) E) : WSs X sts ρ M E := by
  refine ⟨fun pins s σ H F I S => ?_⟩
  obtain ⟨vs, hv, rv⟩ := S.good.lst hm
  have t := Stp.freeze S.good hm hv
  obtain ⟨v, e1, r1⟩ := S.slot i _ hi
  cases r1
  have S1 := (S.step t).set (v := .ref a) (d := .lst ds) i (.lst (.of upd_same) (t.reps rv))
  have eσ : σ.set i (some (.ref a)) = σ := by
    obtain ⟨hl, e2⟩ := List.getElem?_eq_some_iff.mp e1
    rw [← e2]; exact List.set_getElem_self hl
  rw [eσ] at S1
  exact thn (h.run pins s σ H _ I S1) fun _ _ q => SP.back t q
theorem WSs.freezeD (i : Nat) {a : Addr} {ds : List (Key × D)} (hi : ρ[i]? = some (some (.ref a))) (hm : M a = some (.dic ds)) (h : WSs X sts (ρ.set i (some (.dic ds))) (mdel M a) E) : WSs X sts ρ M E := by
  refine ⟨fun pins s σ H F I S => ?_⟩
  obtain ⟨vs, hv, rv⟩ := S.good.dic hm
  have t := Stp.freeze S.good hm hv
  obtain ⟨v, e1, r1⟩ := S.slot i _ hi
  cases r1
  have S1 := (S.step t).set (v := .ref a) (d := .dic ds) i (.dic upd_same (rv.mono t.sub))
  have eσ : σ.set i (some (.ref a)) = σ := by
    obtain ⟨hl, e2⟩ := List.getElem?_eq_some_iff.mp e1
    rw [← e2]; exact List.set_getElem_self hl
  rw [eσ] at S1
  exact thn (h.run pins s σ H _ I S1) fun _ _ q => SP.back t q

theorem WSs.nil (h : E.nx ρ' M) (l : Le ρ' ρ) : WSs X [] ρ M E := .pss pss_nil fun σ H F S => ⟨F, M, ρ', Stp.refl S.good, S.le l, h⟩
theorem WSs.done (h : E.nx ρ M) : WSs X [] ρ M E := .nil h (Le.refl ρ)
theorem WSs.cons (h : WS X st ρ M { E with nx := fun ρ' M' => WSs X rest ρ' M' E }) : WSs X (st :: rest) ρ M E := by
  refine ⟨fun pins s σ H F I S => ?_⟩
  refine wpAny_execs_cons (thn (h.run pins s σ H F I S) fun f s1 q => ?_)
  cases f with
  | next =>
    obtain ⟨σ', H', I', F', M', ρ', t, S', q⟩ := q
    exact thn (q.run pins s1 σ' H' F' I' S') fun _ _ q => SP.back t q
  | ret v => exact q
  | brk => exact q
  | cont => exact q
theorem WSs.one (h : WS X st ρ M E) : WSs X [st] ρ M E := .cons ⟨fun pins s σ H F I S => thn (h.run pins s σ H F I S) fun f s1 q => SP.imp q (fun _ _ ⟨a, b, c, d, e, r⟩ => ⟨a, b, c, d, e, .done r⟩) (fun _ _ q => q) (fun _ _ q => q) (fun _ _ q => q)⟩
/-- a middle point: R holds behind the first statement -/
theorem WSs.cut (R : En → Mp → Prop) (h : WS X st ρ M { E with nx := R }) (h2 : ∀ ρ' M', R ρ' M' → WSs X rest ρ' M' E) : WSs X (st :: rest) ρ M E :=
  .cons ⟨fun pins s σ H F I S => thn (h.run pins s σ H F I S) fun f s1 q => SP.imp q (fun _ _ ⟨a, b, c, d, e, r⟩ => ⟨a, b, c, d, e, h2 _ _ r⟩) (fun _ _ q => q) (fun _ _ q => q) (fun _ _ q => q)⟩
theorem WS.pass (h : E.nx ρ M) : WS X (.Pass pos) ρ M E := .ps ps_pass fun σ H F S => ⟨F, M, ρ, Stp.refl S.good, S, h⟩
theorem WS.brk (h : E.bk ρ M) : WS X (.Break pos) ρ M E := .ps ps_break fun σ H F S => ⟨F, M, ρ, Stp.refl S.good, S, h⟩
theorem WS.cont (h : E.ct ρ M) : WS X (.Continue pos) ρ M E := .ps ps_continue fun σ H F S => ⟨F, M, ρ, Stp.refl S.good, S, h⟩
theorem WS.expr (h : WE X e ρ M fun _ M' => E.nx ρ M') (hs : swapsWith e none pos.line X.env = pure false := by rfl) : WS X (.Expr e pos) ρ M E :=
  ⟨fun pins s σ H F I S => wpAny_Expr_any (thn (h.run pins s σ H F I S) fun v s1 ⟨x, H1, F1, M1, d, I1, r1, t1, p1, q⟩ => ⟨σ, H1, I1, F1, M1, ρ, t1, S.step t1, q⟩) I.quiet hs⟩
theorem WS.ret (h : WE X e ρ M E.rt) : WS X (.Return (some e) pos) ρ M E :=
  ⟨fun pins s σ H F I S => wpAny_Return_some (thn (h.run pins s σ H F I S) fun v s1 ⟨x, H1, F1, M1, d, I1, r1, t1, p1, q⟩ => ⟨x, σ, H1, I1, r1, F1, M1, d, t1, p1, q⟩)⟩
theorem WS.retN (h : E.rt .non M) : WS X (.Return none pos) ρ M E := .ps ps_retN fun σ H F S => ⟨F, M, .non, Stp.refl S.good, .non, h⟩
theorem WS.ite {c : Expr} {a b : List Stmt} (h : WT X c ρ M fun k M' => (k = true → WSs X a ρ M' E) ∧ (k = false → WSs X b ρ M' E)) : WS X (.If c a b pos) ρ M E := by
  refine ⟨fun pins s σ H F I S => ?_⟩
  refine wpAny_If (thn (h.run pins s σ H F I S) fun d s1 ⟨H1, F1, M1, I1, t1, q1, q2⟩ => ?_)
  cases d with
  | true => exact thn ((q1 rfl).run pins s1 σ H1 F1 I1 (S.step t1)) fun _ _ q => SP.back t1 q
  | false => exact thn ((q2 rfl).run pins s1 σ H1 F1 I1 (S.step t1)) fun _ _ q => SP.back t1 q

/-! ### targets -/
variable {R : En → Mp → Prop} {x : D} {n : Str}
theorem WG.name (i : Nat) (h : R (ρ.set i (some x)) M) (hN : X.N.Nodup) (hi : X.N[i]? = some n := by rfl) (hx : Loc X.env.scope n := by first | exact .inl rfl | exact .inr rfl)
    (hf : X.fn n = true ∨ X.env.scope.names.lookup n = some .local := by first | exact .inl rfl | exact .inr rfl) : WG X (.Name n pos) x ρ M R :=
  ⟨fun pins s σ H F v u I S r rp => wpAny_assign_Name (store_ok I hN hi hx r (fun s' I' => ⟨_, H, I', F, M, _, Stp.refl S.good, S.set i rp, h⟩) hf)⟩
theorem WGs.nil (h : R ρ M) : WGs X [] [] ρ M R := by
  refine ⟨fun pins s σ H F vs us I S r rp => ?_⟩
  cases rp
  cases r
  exact assignInOrder_nil ⟨σ, H, I, F, M, ρ, Stp.refl S.good, S, h⟩
theorem WGs.cons {es : List Expr} {xs : List D} (h : WG X e x ρ M fun ρ1 M1 => WGs X es xs ρ1 M1 R) (hs : (assignEach (e :: es) X.env).map (·.2) = assign e X.env :: (assignEach es X.env).map (·.2) := by rfl) : WGs X (e :: es) (x :: xs) ρ M R := by
  refine ⟨fun pins s σ H F vs us I S r rp => ?_⟩
  cases rp with
  | cons p1 p2 =>
    cases r with
    | cons r1 r2 =>
      rw [hs]
      refine assignInOrder_cons (thn (h.run pins s σ H F _ _ I S r1 p1) fun _ s1 ⟨σ1, H1, I1, F1, M1, ρ1, t1, S1, q1⟩ => ?_)
      exact thn (q1.run pins s1 σ1 H1 F1 _ _ I1 S1 r2 (t1.reps p2)) fun _ s2 ⟨σ2, H2, I2, q2⟩ => ⟨σ2, H2, I2, q2.back t1⟩
theorem WG.tup {es : List Expr} {k : Nat} {xs : List D} (hc : X.calm = true) (h : WGs X es xs ρ M R) (hl : xs.length = (assignEach es X.env).length := by rfl) (hst : (assignEach es X.env).findIdx? (·.1) = none := by rfl) : WG X (.Tuple es k pos) (.tup xs) ρ M R := by
  refine ⟨fun pins s σ H F v u I S r rp => ?_⟩
  cases rp with
  | tup hq hr =>
    cases r
    obtain ⟨its, rv, ht, hz⟩ := I.tuple (S.good.sub.sqT hq)
    refine assign_Tuple_tuple (I.ok.hd hc) ht (by simp [← hl, ← rv.length, hr.length]) hst fun h' hx => ?_
    have I1 : Inv X pins σ H { s with heap := h' } := I.kept (t' := s.toks) fun b o e => hx b o (Nat.ne_of_lt (Heap.lt_size e)) e
    exact h.run pins _ σ H F _ _ I1 S (by simpa using rv) hr
theorem WS.asg {tg : Expr} (h : WE X e ρ M fun x M1 => WG X tg x ρ M1 E.nx) (hs : swapsWithSole [tg] e pos.line X.env = pure false := by rfl) (hw : swappedStores [tg] e X.env = pure none := by rfl)
    (h1 : (assignEach [tg] X.env).map (·.2) = [assign tg X.env] := by rfl) : WS X (.Assign [tg] e pos) ρ M E := by
  refine ⟨fun pins s σ H F I S => ?_⟩
  refine wpAny_Assign_stores (thn (h.run pins s σ H F I S) fun v s1 ⟨x, H1, F1, M1, d, I1, r1, t1, p1, q⟩ => ?_) hs hw
  rw [h1]
  exact thn (q.run pins s1 σ H1 F1 x v I1 (S.step t1) r1 p1) fun _ s2 ⟨σ2, H2, I2, q2⟩ => ⟨σ2, H2, I2, q2.back t1⟩
theorem WS.set (i : Nat) {pos' : Pos} (h : WE X e ρ M fun x M1 => E.nx (ρ.set i (some x)) M1) (hN : X.N.Nodup) (hi : X.N[i]? = some n := by rfl) (hx : Loc X.env.scope n := by first | exact .inl rfl | exact .inr rfl)
    (hs : swapsWith e (some (.Name n pos')) pos.line X.env = pure false := by rfl) (hf : X.fn n = true ∨ X.env.scope.names.lookup n = some .local := by first | exact .inl rfl | exact .inr rfl) : WS X (.Assign [.Name n pos'] e pos) ρ M E := by
  refine ⟨fun pins s σ H F I S => ?_⟩
  refine wpAny_Assign_Name (thn (h.run pins s σ H F I S) fun v s1 ⟨y, H1, F1, M1, d, I1, r1, t1, p1, q⟩ => ?_) hs
  exact store_ok I1 hN hi hx r1 (fun s2 I2 => ⟨_, H1, I2, F1, M1, _, t1, (S.step t1).set i p1, q⟩) hf
end
end TL
end
section
set_option maxRecDepth 100000
/-! TD: what is walked, for, while, list comprehensions, over tree values. -/
namespace TL
open PySem PySem.Spec PyProof.Rows L2

section
variable {X : Cx}
/-- the layer's readings, from the tree words -/
def lTS (X : Cx) (sts : List Stmt) : TS := fun D σ H => ∃ F M ρ E, Sim X.K H F M σ ρ ∧ WSs X sts ρ M E ∧ (∀ σ' H', NEnd X H F M E.nx σ' H' → D.nx σ' H') ∧ (∀ v H', REnd X H F M E.rt v H' → D.rt v H') ∧
  (∀ σ' H', NEnd X H F M E.bk σ' H' → D.bk σ' H') ∧ (∀ σ' H', NEnd X H F M E.ct σ' H' → D.ct σ' H')
theorem lTS_ok {sts : List Stmt} : PSs X sts (lTS X sts) :=
  ⟨fun pins s σ H D I ⟨F, M, ρ, E, S, h, h1, h2, h3, h4⟩ => thn (h.run pins s σ H F I S) fun _ _ q => SP.imp q h1 h2 h3 h4⟩
def lTG (X : Cx) (tg : Expr) : TG := fun v σ H Q => ∃ F M ρ x R, Sim X.K H F M σ ρ ∧ Rep X.K F v x ∧ WG X tg x ρ M R ∧ ∀ σ' H', NEnd X H F M R σ' H' → Q σ' H'
theorem lTG_ok {tg : Expr} : PG X tg (lTG X tg) :=
  ⟨fun pins s σ H v u Q I r ⟨F, M, ρ, x, R, S, rp, h, hq⟩ => thn (h.run pins s σ H F v u I S r rp) fun _ s' ⟨σ', H', I', q⟩ => ⟨σ', H', I', hq _ _ q⟩⟩
def lTE (X : Cx) (e : Expr) : TE := fun σ H Q => ∃ F M ρ QD, Sim X.K H F M σ ρ ∧ WE X e ρ M QD ∧ ∀ v H', REnd X H F M QD v H' → Q v H'
theorem lTE_ok {e : Expr} : PE X e (lTE X e) :=
  ⟨fun pins s σ H Q I ⟨F, M, ρ, QD, S, h, hq⟩ => thn (h.run pins s σ H F I S) fun _ s' ⟨v, H', F', M', d, I', r, t, rp, q⟩ => ⟨v, H', I', r, hq v H' ⟨F', M', d, t, rp, q⟩⟩⟩
def lTT (X : Cx) (e : Expr) : TT := fun σ H Q => ∃ F M ρ QB, Sim X.K H F M σ ρ ∧ WT X e ρ M QB ∧ ∀ b H' F' M', Stp X.K H F M H' F' M' → QB b M' → Q b H'
theorem lTT_ok {e : Expr} : PT X e (lTT X e) :=
  ⟨fun pins s σ H Q I ⟨F, M, ρ, QB, S, h, hq⟩ => thn (h.run pins s σ H F I S) fun _ s' ⟨H', F', M', I', t, q⟩ => ⟨H', I', hq _ H' F' M' t q⟩⟩
def lTA (X : Cx) (es : List Expr) : TA := fun σ H Q => ∃ F M ρ QA, Sim X.K H F M σ ρ ∧ WA X es ρ M QA ∧ ∀ vs H' F' M' ds, Stp X.K H F M H' F' M' → Reps X.K F' vs ds → QA ds M' → Q vs H'
theorem lTA_ok {es : List Expr} : PA X es (lTA X es) :=
  ⟨fun pos pins s σ H Q I ⟨F, M, ρ, QA, S, h, hq⟩ => thn (h.run pos pins s σ H F I S) fun _ s' ⟨vs, H', F', M', ds, I', r, t, rp, q⟩ => ⟨vs, H', I', r, hq vs H' F' M' ds t rp q⟩⟩

/-! ### what is walked -/
/-- the iterator J yields the items xs, whatever else is done to what may be written -/
def Walks (K : PySem.W.Frag) (J : It) (H0 F0 : Hp) (M0 : Mp) (xs : List D) : Prop :=
  ∀ i H F M, Stp K H0 F0 M0 H F M → (i < xs.length → J.go i H ∧ ∀ x H1, J.yld i H x H1 → ∃ F1 d, xs[i]? = some d ∧ Stp K H F M H1 F1 M ∧ Rep K F1 x d) ∧ (i = xs.length → J.stop i H)
def WI (X : Cx) (tg iter : Expr) (ρ : En) (M : Mp) (R : List D → Mp → Prop) : Prop :=
  ∃ wi, PI X tg iter wi ∧ ∀ σ H F, Sim X.K H F M σ ρ → ∀ R' : It → Hp → Prop, (∀ J H1 F1 M1 xs, Stp X.K H F M H1 F1 M1 → Walks X.K J H1 F1 M1 xs → R xs M1 → R' J H1) → wi σ H R'
theorem Walks.list {K : PySem.W.Frag} {H F : Hp} {M : Mp} {a : Addr} {vs : List V} {xs : List D} (h : SqL K F a vs) (r : Reps K F vs xs) : Walks K (Itl K a) H F M xs := by
  intro i H1 F1 M1 t
  have q : SqL K H1 a vs := t.good.sub.sqL (t.sub.sqL h)
  have el := r.length
  refine ⟨fun hi => ⟨⟨vs, vs[i]'(by omega), q, List.getElem?_eq_getElem (by omega)⟩, fun x H2 hy => ?_⟩, fun hi => ⟨vs, q, by omega⟩⟩
  obtain ⟨e, f⟩ := hy
  have e : H2 = H1 := by first | exact e | exact e.symm
  subst e
  obtain ⟨d, hd, rd⟩ := r.get' (f vs q)
  exact ⟨F1, d, hd, Stp.refl t.good, t.rep rd⟩
theorem Walks.tup {K : PySem.W.Frag} {H F : Hp} {M : Mp} {a : Addr} {vs : List V} {xs : List D} (h : SqT K F a vs) (r : Reps K F vs xs) : Walks K (Itt K a) H F M xs := by
  intro i H1 F1 M1 t
  have q : SqT K H1 a vs := t.good.sub.sqT (t.sub.sqT h)
  have el := r.length
  refine ⟨fun hi => ⟨⟨vs, vs[i]'(by omega), q, List.getElem?_eq_getElem (by omega)⟩, fun x H2 hy => ?_⟩, fun hi => ⟨vs, q, by omega⟩⟩
  obtain ⟨e, f⟩ := hy
  have e : H2 = H1 := by first | exact e | exact e.symm
  subst e
  obtain ⟨d, hd, rd⟩ := r.get' (f vs q)
  exact ⟨F1, d, hd, Stp.refl t.good, t.rep rd⟩
/-- range items -/
def rng (lo : Int) (n : Nat) : List D := (List.range n).map fun (i : Nat) => D.int (lo + (i : Int))
theorem Walks.range {K : PySem.W.Frag} {H F : Hp} {M : Mp} {lo : Int} {n : Nat} : Walks K (Itr lo n) H F M (rng lo n) := by
  intro i H1 F1 M1 t
  have el : (rng lo n).length = n := by simp [rng]
  rw [el]
  refine ⟨fun hi => ⟨hi, fun x H2 hy => ?_⟩, fun hi => Nat.le_of_eq hi.symm⟩
  obtain ⟨e1, e2⟩ := hy
  subst e1 e2
  refine ⟨F1, .int (lo + i), ?_, Stp.refl t.good, .int _⟩
  simp [rng, hi]
variable {tg e : Expr} {ρ : En} {M : Mp} {R : List D → Mp → Prop}
/-- over a list, a tuple -/
theorem WI.list (h : WE X e ρ M fun d M1 => ∃ xs, d = .lst xs ∧ R xs M1) : WI X tg e ρ M R := by
  refine ⟨_, pi_list lTE_ok, fun σ H F S R' hR => ⟨F, M, ρ, _, S, h, fun v H1 ⟨F1, M1, d, t, rp, xs, ed, q⟩ => ?_⟩⟩
  subst ed
  cases rp with
  | lst hs hr => exact ⟨_, rfl, ⟨_, t.good.sub.sqL (.inl hs)⟩, hR _ H1 F1 M1 xs t (Walks.list (.inl hs) hr) q⟩
theorem WI.tup (h : WE X e ρ M fun d M1 => ∃ xs, d = .tup xs ∧ R xs M1) : WI X tg e ρ M R := by
  refine ⟨_, pi_tup lTE_ok, fun σ H F S R' hR => ⟨F, M, ρ, _, S, h, fun v H1 ⟨F1, M1, d, t, rp, xs, ed, q⟩ => ?_⟩⟩
  subst ed
  cases rp with
  | tup hs hr => exact ⟨_, rfl, ⟨_, t.good.sub.sqT hs⟩, hR _ H1 F1 M1 xs t (Walks.tup hs hr) q⟩
variable {p pos : Pos}
theorem WI.range1 {a : Expr} (hm : X.mg "range" = none) (h : WE X a ρ M fun d M1 => ∃ j : Int, d = .int j ∧ -(2 ^ 62) ≤ j ∧ j < 2 ^ 62 ∧ R (rng 0 j.toNat) M1) (hg : Gl X "range" := by rfl) (hs : starEach [a] X.env = [(false, eval a X.env)] := by rfl) : WI X tg (.Call (.Name "range" p) [a] [] pos) ρ M R := by
  refine ⟨_, pi_range1 hg hm (pa_cons (lTE_ok (e := a)) pa_nil (by rw [hs]; rfl)) hs, fun σ H F S R' hR => ⟨F, M, ρ, _, S, h, fun v H1 ⟨F1, M1, d, t, rp, j, ed, q1, q2, q⟩ => ?_⟩⟩
  subst ed
  cases rp
  exact ⟨j, rfl, q1, q2, hR _ H1 F1 M1 _ t Walks.range q⟩
theorem WI.range2 {a b : Expr} (hm : X.mg "range" = none) (h : WE X a ρ M fun c M1 => WE X b ρ M1 fun d M2 => ∃ i j : Int, c = .int i ∧ d = .int j ∧ (-(2 ^ 62) ≤ i ∧ i < 2 ^ 62 ∧ -(2 ^ 62) ≤ j ∧ j < 2 ^ 62) ∧ R (rng i (j - i).toNat) M2) (hg : Gl X "range" := by rfl)
    (hs : starEach [a, b] X.env = [(false, eval a X.env), (false, eval b X.env)] := by rfl) (hs2 : starEach [b] X.env = [(false, eval b X.env)] := by rfl) : WI X tg (.Call (.Name "range" p) [a, b] [] pos) ρ M R := by
  refine ⟨_, pi_range2 hg hm (pa_cons (lTE_ok (e := a)) (pa_cons (lTE_ok (e := b)) pa_nil (by rw [hs2]; rfl)) (by rw [hs, hs2])) hs hs2, fun σ H F S R' hR => ⟨F, M, ρ, _, S, h, fun v H1 ⟨F1, M1, c, t, rp, q0⟩ => ⟨F1, M1, ρ, _, S.step t, q0, fun v2 H2 ⟨F2, M2, d, t2, rp2, i, j, e1, e2, q1, q⟩ => ?_⟩⟩⟩
  subst e1 e2
  cases rp
  cases rp2
  exact ⟨i, j, rfl, q1, hR _ H2 F2 M2 _ (t.trans t2) Walks.range q⟩

/-! ### for -/
def ForT (X : Cx) (tg : Expr) (body : List Stmt) (E : TEs) : List D → En → Mp → Prop
  | [], ρ, M => ∃ ρt, Le ρt ρ ∧ E.nx ρt M
  | x :: xs, ρ, M => WG X tg x ρ M fun ρ1 M1 => WSs X body ρ1 M1 { nx := ForT X tg body E xs, ct := ForT X tg body E xs, rt := E.rt, bk := E.nx }
theorem WS.for {iter : Expr} {body : List Stmt} {E : TEs} (hp : PassesOwn (model X.prog X.w) X.A X.env X.xe) (hc : X.calm = true) (h : WI X tg iter ρ M fun xs M1 => ForT X tg body E xs ρ M1)
    (hs : ∀ x, foldedSetIterable iter X.env x = pure x := by intro _; rfl) : WS X (.For tg iter body [] pos) ρ M E := by
  obtain ⟨wi, hi, h⟩ := h
  refine .ps (ps_for hp hc hi lTG_ok lTS_ok hs) fun σ0 H0 F0 S0 => ?_
  -- the reading of what is walked, then the loop
  have key : ∀ J H1, (∃ F1 M1 xs, Stp X.K H0 F0 M H1 F1 M1 ∧ Walks X.K J H1 F1 M1 xs ∧ ForT X tg body E xs ρ M1) →
      ∃ W : Nat → Nat → SS → Hp → Prop, (∃ m, W 0 m σ0 H1) ∧ ∀ i m σ H, W i m σ H →
        (J.stop i H ∧ (E.ends X H0 F0 M).nx σ H) ∨ (J.go i H ∧ ∃ N : SS → Hp → Prop, (∀ σ' H', N σ' H' → ∃ m', m' < m ∧ W (i + 1) m' σ' H') ∧ ∀ x H', J.yld i H x H' → lTG X tg x σ H' fun σ2 H2 => lTS X body { (E.ends X H0 F0 M) with nx := N, ct := N, bk := (E.ends X H0 F0 M).nx } σ2 H2) := by
    intro J H1 ⟨F1, M1, xs, t1, wk, ft⟩
    let St : Nat → SS → Hp → Prop := fun i σ H => ∃ F M' ρ', Stp X.K H1 F1 M1 H F M' ∧ Sim X.K H F M' σ ρ' ∧ ForT X tg body E (xs.drop i) ρ' M'
    refine ⟨fun i m σ H => m = xs.length - i ∧ i ≤ xs.length ∧ St i σ H, ⟨xs.length, by simp, Nat.zero_le _, F1, M1, ρ, Stp.refl t1.good, S0.step t1, ft⟩, ?_⟩
    rintro i m σ H ⟨rfl, hi, F, M', ρ', t2, S2, f2⟩
    by_cases hlt : i < xs.length
    · obtain ⟨hgo, hy⟩ := (wk i H F M' t2).1 hlt
      refine .inr ⟨hgo, St (i + 1), fun σ' H' p => ⟨_, by omega, rfl, hlt, p⟩, fun x H' y => ?_⟩
      obtain ⟨F3, d, hd, t3, rp⟩ := hy x H' y
      have ed : xs.drop i = d :: xs.drop (i + 1) := by
        rw [List.drop_eq_getElem_cons hlt]
        have := List.getElem?_eq_getElem hlt
        rw [hd] at this
        rw [Option.some.inj this]
      rw [ed] at f2
      refine ⟨F3, M', ρ', d, _, S2.step t3, rp, f2, fun σ4 H4 ⟨F4, M4, ρ4, t4, S4, w4⟩ => ⟨F4, M4, ρ4, _, S4, w4, fun σ5 H5 ⟨F5, M5, ρ5, t5, S5, q5⟩ => ?_, fun v5 H5 q5 => ?_, fun σ5 H5 q5 => ?_, fun σ5 H5 ⟨F5, M5, ρ5, t5, S5, q5⟩ => ?_⟩⟩
      · exact ⟨F5, M5, ρ5, ((t2.trans t3).trans t4).trans t5, S5, q5⟩
      · exact q5.back (((t1.trans t2).trans t3).trans t4)
      · exact q5.back (((t1.trans t2).trans t3).trans t4)
      · exact ⟨F5, M5, ρ5, ((t2.trans t3).trans t4).trans t5, S5, q5⟩
    · have e : i = xs.length := by omega
      subst e
      rw [List.drop_length] at f2
      obtain ⟨ρt, l, q⟩ := f2
      exact .inl ⟨(wk _ H F M' t2).2 rfl, F, M', ρt, t1.trans t2, S2.le l, q⟩
  exact h σ0 H0 F0 S0 _ fun J H1 F1 M1 xs t w q => key J H1 ⟨F1, M1, xs, t, w, q⟩
end
end TL
end
section
set_option maxRecDepth 100000
/-! TE: enumerate and zip over lists, tuples, texts in any mix; texts sign by sign. -/
namespace TL
open PySem PySem.Spec PyProof.Rows L2

/-- what an iterator draws from -/
inductive Sk where
  | lst (a : Addr) | tup (a : Addr) | str (x : Str)
def Sk.own : Sk → List Addr
  | .lst a => [a]
  | .tup a => [a]
  | .str _ => []
def Sk.obj (k : Sk) (t : Tok) : Obj := match k with
  | .lst a => { cls := .type "list_iterator", data := .fields #[.ref a, .int 0 0] }
  | .tup a => { cls := .type "tuple_iterator", data := .fields #[.ref a, .int 0 0] }
  | .str x => { cls := .type (strIterType x), data := .fields #[.str x t, .int 0 0] }
def Sk.val (k : Sk) (t : Tok) : Value := match k with
  | .lst a => .ref a
  | .tup a => .ref a
  | .str x => .str x t
/-- the iterator at it stands ahead of the i-th item -/
def Sk.At (k : Sk) (t : Tok) (it : Addr) (h : Heap) (i : Nat) : Prop := match k with
  | .lst a => h.IsListIter it a i
  | .tup a => h.IsTupleIter it a i
  | .str x => h.IsStrIter it (strIterType x) x t i
def strV (x : Str) : List V := x.cps.toList.map fun c => V.str ⟨#[c]⟩
def Sk.Is (K : PySem.W.Frag) (H : Hp) (vs : List V) : Sk → Prop
  | .lst a => SqL K H a vs
  | .tup a => SqT K H a vs
  | .str x => vs = strV x
theorem Sk.At.new (k : Sk) (t : Tok) {h : Heap} {it : Addr} (e : h.get? it = some (k.obj t)) : k.At t it h 0 := by
  cases k with
  | lst a => exact ⟨_, e, rfl, rfl⟩
  | tup a => exact ⟨_, e, rfl, rfl⟩
  | str x => exact ⟨_, e, rfl, rfl⟩
theorem Sk.At.obj {k : Sk} {t : Tok} {h : Heap} {it : Addr} {i : Nat} (x : k.At t it h i) : ∃ o, h.get? it = some o ∧ ∀ v, o.data ≠ .cell v := by
  cases k with
  | lst a => obtain ⟨o, e, _, d⟩ := x; exact ⟨o, e, fun v q => by rw [d] at q; cases q⟩
  | tup a => obtain ⟨o, e, _, d⟩ := x; exact ⟨o, e, fun v q => by rw [d] at q; cases q⟩
  | str y => obtain ⟨o, e, _, d⟩ := x; exact ⟨o, e, fun v q => by rw [d] at q; cases q⟩
theorem Sk.At.keep {k : Sk} {t : Tok} {h h' : Heap} {it : Addr} {i : Nat} (x : k.At t it h i) (q : ∀ o, h.get? it = some o → h'.get? it = some o) : k.At t it h' i := by
  cases k with
  | lst a => obtain ⟨o, e, r⟩ := x; exact ⟨o, q o e, r⟩
  | tup a => obtain ⟨o, e, r⟩ := x; exact ⟨o, q o e, r⟩
  | str y => obtain ⟨o, e, r⟩ := x; exact ⟨o, q o e, r⟩
theorem strV_len (x : Str) : (strV x).length = x.cps.size := by simp [strV]
section
variable {X : Cx} {pins : Pins} {σ : SS} {H : Hp} {s : Shared}
/-- the items as they stand now -/
theorem Sk.draws (I : Inv X pins σ H s) {k : Sk} {vs : List V} (h : k.Is X.K H vs) (t : Tok) (it : Addr) (hne : ∀ a ∈ k.own, a ≠ it) :
    ∃ (P : Nat → Value → Prop) (St : Nat → Heap → Prop), (∀ A : Around, A.handled = none → Draws X.prog X.w A it (it :: k.own) vs.length P St) ∧ (∀ i, k.At t it s.heap i → St i s.heap) ∧
      (∀ i h, St i h → k.At t it h i) ∧ ∀ i u, P i u → ∃ x, vs[i]? = some x ∧ RelV x u := by
  cases k with
  | lst a =>
    obtain ⟨its, rv, p, _⟩ := I.list h
    refine ⟨fun i v => its.toArray[i]? = some v, fun i h => h.IsListIter it a i ∧ h.IsList a its.toArray, fun A hA => ?_, fun i q => ⟨q, p.isList⟩, fun i h q => q.1, fun i u q => ?_⟩
    · have d := Draws.list (prog := X.prog) (w := X.w) hA it a (hne a (by simp [Sk.own])) its.toArray
      rw [show its.toArray.size = vs.length by simp [rv.length]] at d
      exact d
    · have q : its.toArray[i]? = some u := q
      have hu : its[i]? = some u := by simpa using q
      cases e : vs[i]? with
      | none => rw [rv.none_of e] at hu; cases hu
      | some x =>
        obtain ⟨u', e', r⟩ := rv.get e
        rw [hu] at e'; cases e'
        exact ⟨x, rfl, r⟩
  | tup a =>
    obtain ⟨its, rv, p, _⟩ := I.tuple h
    have p' : s.heap.IsTuple a its.toArray := p
    refine ⟨fun i v => its.toArray[i]? = some v, fun i h => h.IsTupleIter it a i ∧ h.IsTuple a its.toArray, fun A hA => ?_, fun i q => ⟨q, p'⟩, fun i h q => q.1, fun i u q => ?_⟩
    · have d := Draws.tuple (prog := X.prog) (w := X.w) hA it a (hne a (by simp [Sk.own])) its.toArray
      rw [show its.toArray.size = vs.length by simp [rv.length]] at d
      exact d
    · have q : its.toArray[i]? = some u := q
      have hu : its[i]? = some u := by simpa using q
      cases e : vs[i]? with
      | none => rw [rv.none_of e] at hu; cases hu
      | some x =>
        obtain ⟨u', e', r⟩ := rv.get e
        rw [hu] at e'; cases e'
        exact ⟨x, rfl, r⟩
  | str x =>
    have e : vs = strV x := h
    subst e
    refine ⟨fun i v => ∃ c u, x.cps[i]? = some c ∧ v = .str ⟨#[c]⟩ u, fun i h => h.IsStrIter it (strIterType x) x t i, fun A hA => ?_, fun i q => q, fun i h q => q, fun i u q => ?_⟩
    · rw [strV_len]
      exact Draws.text hA it x t
    · obtain ⟨c, u', hc, rfl⟩ := q
      have hc' : x.cps.toList[i]? = some c := by simpa using hc
      exact ⟨.str ⟨#[c]⟩, by simp [strV, hc'], ⟨u', rfl⟩⟩
theorem Sk.lt (I : Inv X pins σ H s) {k : Sk} {vs : List V} (h : k.Is X.K H vs) : ∀ a ∈ k.own, a < s.heap.objs.size := by
  intro a ha
  cases k with
  | lst b =>
    obtain rfl : a = b := by simpa [Sk.own] using ha
    obtain ⟨its, rv, ⟨o, n, e, _⟩, _⟩ := I.list h
    exact Heap.lt_size e
  | tup b =>
    obtain rfl : a = b := by simpa [Sk.own] using ha
    obtain ⟨its, rv, p, _⟩ := I.tuple h
    exact p.lt
  | str x => simp [Sk.own] at ha
theorem Sk.begins (I : Inv X pins σ H s) {k : Sk} {vs : List V} (h : k.Is X.K H vs) (t : Tok) : ∃ G : Heap → Prop, Begins (k.val t) (k.obj t) G ∧ G s.heap := by
  cases k with
  | lst a => obtain ⟨its, rv, p, _⟩ := I.list h; exact ⟨_, begins_list a its.toArray, p.isList⟩
  | tup a => obtain ⟨its, rv, p, _⟩ := I.tuple h; exact ⟨_, begins_tuple a its.toArray, p⟩
  | str x => exact ⟨_, begins_text x t, trivial⟩
end
/-! ### enumerate(v) begins, v of any sort -/
set_option maxHeartbeats 1000000 in
theorem enum1_meets {v : Value} {o : Obj} {G : Heap → Prop} (B : Begins v o G) : Meets (Builtin.«enumerate.__new__» ⟨[.type "enumerate", v], []⟩)
    (fun _ R z => G z.heap ∧ R (.ok (.ret (.ref (z.heap.push o).objs.size)))
      { z with heap := (z.heap.push o).push { cls := .type "enumerate", data := .fields #[.none, .bool false, .ref z.heap.objs.size, rawInt 0, .none, .none] } }) :=
  .of_wp fun P w A R z hz => by
    obtain ⟨hp, gs, dr, tk, os⟩ := z
    obtain ⟨g1, hR⟩ := hz
    have sub := sub_enumerate
    have first : ∀ {A' : Around} {E' : Value → Shared → Prop} {Q' : Value → Shared → Prop}, Q' (.ref hp.objs.size) ⟨hp.push o, gs, dr, tk, os⟩ → wpAny (model P w) A' (pyIter v) Q' E' ⟨hp, gs, dr, tk, os⟩ := fun q => B.iter P w _ _ _ _ g1 q
    wp_walk using first
    refine wpAny_stack_any fun st => wpAny_pure ?_
    split
    · rename_i cc _ _ _ _ _
      cases (cc == Value.type "enumerate") <;> (wp_walk using first; exact ⟨_, rfl, hR⟩)
    · wp_walk using first
      exact ⟨_, rfl, hR⟩
theorem enum1_begins {P : Program} {w : World} {A : Around} {E : Value → Shared → Prop} {s : Shared} {v : Value} {o : Obj} {G : Heap → Prop} {Q : Value → Shared → Prop} (B : Begins v o G) (g : G s.heap)
    (h : ∀ h', IsEnum h' (s.heap.objs.size + 1) s.heap.objs.size 0 .none → h'.get? s.heap.objs.size = some o → (∀ b u, s.heap.get? b = some u → h'.get? b = some u) → Q (.ref (s.heap.objs.size + 1)) { s with heap := h' }) :
    wpAny (model P w) A (call (.type "enumerate") [v]) Q E s := by
  refine callType_new F.called_enumerate (by decide) (F.typeCall_enumerate_1 _) (F.newCall_enumerate_1 _) (fun _ => F.args_object_init_2 _ _) F.entry_enumerate_new (enum1_meets B) ⟨g, ?_⟩
  have z1 : (s.heap.push o).objs.size = s.heap.objs.size + 1 := Heap.size_push _ _
  show _ ∧ _
  rw [z1]
  have he : ((s.heap.push o).push { cls := .type "enumerate", data := .fields #[.none, .bool false, .ref s.heap.objs.size, rawInt 0, .none, .none] }).get? (s.heap.objs.size + 1) = some { cls := .type "enumerate", data := .fields #[.none, .bool false, .ref s.heap.objs.size, rawInt 0, .none, .none] } := by
    rw [← z1]
    exact Heap.get?_push_size _ rfl
  exact ⟨⟨_, he, rfl⟩, h _ he (Heap.get?_push_of_some _ (Heap.get?_push_size _ B.free)) fun b u e => Heap.get?_push_of_some _ (Heap.get?_push_of_some _ e)⟩


/-- new tuples of a row each, n of them -/
def Itw (ok : Hp → Prop) (n : Nat) (row : Nat → List V → Prop) : It :=
  ⟨fun i H => ok H ∧ i < n, fun i H v H' => ∃ T xs, v = .ref T ∧ H T = none ∧ H' = upd H T (.tup xs) ∧ row i xs, fun i H => ok H ∧ i = n⟩
theorem turn_wt {P : Program} {w : World} {K : PySem.W.Frag} {elts : List Expr} {kk : Nat} {tpos : Pos} {I0 : Addr} {fp wr : List Addr} {tn : Nat → Heap → Prop} {ok : Hp → Prop} {n : Nat} {row : Nat → List V → Prop}
    (mem : I0 ∈ fp) (sub : ∀ b ∈ wr, b ∈ fp) (obj : ∀ i h, tn i h → ∀ b ∈ fp, ∃ o, h.get? b = some o ∧ ∀ v, o.data ≠ .cell v)
    (keep : ∀ i h h', tn i h → (∀ b ∈ fp, ∀ o, h.get? b = some o → h'.get? b = some o) → tn i h') (short : ∀ i xs, row i xs → xs.length ≤ 1000)
    (self : ∀ (A : Around) (i : Nat) (s : Shared) (Q : Value → Shared → Prop) (E : Value → Shared → Prop), tn i s.heap → Q (.ref I0) s → wpAny (model P w) A (pyIter (.ref I0)) Q E s)
    (W : ∀ X : Cx, X.prog = P → X.w = w → X.K = K → X.calm = true → ∀ (i : Nat) (pins : Pins) (s : Shared) (σ : SS) (H : Hp), Inv X pins σ H s → (∀ b ∈ fp, FpOk X pins H b) → ok H → tn i s.heap →
      ∃ FP Pt St Mid, WalksT P w X.A I0 FP wr n Pt St Mid ∧ St i s.heap ∧ (∀ j h, St j h → tn j h) ∧ ∀ j vals, Pt j vals → ∃ vs, row j vs ∧ Vals vs vals.toList) :
    Turn P w K (.Tuple elts kk tpos) (Itw ok n row) fp I0 tn where
  mem := mem
  obj := obj
  keep := keep
  item := by
    intro X hP hw hK hc i pins s σ H E I hf st hg
    obtain ⟨hok, hi⟩ := hg
    obtain ⟨FP, Pt, St, Mid, G, h1, h2, h3⟩ := W X hP hw hK hc i pins s σ H I hf hok st
    subst hP hw hK
    refine G.item i s _ E hi h1 fun T vals h' tk hp hle hT hm hk => ⟨.ref T, rfl, ?_⟩
    refine G.go elts kk tpos i T { s with heap := h', toks := tk } _ E hm fun h2' st2 hk2 => ?_
    obtain ⟨vs, hv, rv⟩ := h3 i vals hp
    have hTw := G.apart i T h' hm
    have kk2 : ∀ b o, b ∉ wr → s.heap.get? b = some o → h2'.get? b = some o := fun b o hb e => hk2 b o hb (hk b o hb e)
    have old : ∀ b ∈ fp, b < s.heap.objs.size := fun b hb => by obtain ⟨o, e, _⟩ := obj i _ st b hb; exact Heap.lt_size e
    have new : ObjOk X.prog X.w (upd H T (.tup vs)) h2' T (.tup vs) := ⟨Nat.le_of_lt (small1000 (short i vs hv)), vals.toList, rv, by
      have q : h2'.IsTuple T vals := hT.at fun o e => hk2 T o hTw e
      rw [Array.toArray_toList]
      exact q⟩
    have I1 := I.turnedNew (t' := tk) (h' := h2') (ch := wr) kk2 (fun b hb => hf b (sub b hb)) hle new
    refine ⟨.ref T, _, I1, rfl, ⟨T, vs, rfl, I.hok.fresh hle, rfl, hv⟩, h2 _ _ st2, fun b hb => ?_⟩
    rw [upd_ne (Nat.ne_of_lt (Nat.lt_of_lt_of_le (old b hb) hle))]
    exact (hf b hb).1
  done := by
    intro X hP hw hK hc i pins s σ H E I hf st hg
    obtain ⟨hok, hi⟩ := hg
    obtain ⟨FP, Pt, St, Mid, G, h1, h2, h3⟩ := W X hP hw hK hc i pins s σ H I hf hok st
    subst hP hw hK hi
    refine G.done s _ E h1 fun h' tk hk => ⟨rfl, ?_⟩
    refine I.step (t' := tk) (g' := s.gens) (d' := s.drawn) (ch := wr) (fun b hb => ?_) (fun b o _ _ hb e _ => hk b o hb e) (fun b o _ _ hb e _ => ⟨o.slots, hk b o hb e⟩) (fun b o _ _ e => e) (fun b o hb e => ⟨o, hk b o hb e⟩) (fun _ _ e => e) (fun _ _ _ e => e) (fun b ps e => ⟨#[], by rw [e]; simp⟩) (fun m hm => ?_) (fun b u e => ?_) I.bare
    · have f := hf b (sub b hb)
      exact ⟨f.2.2.2.1, f.2.1, f.2.2.2.2.1, f.2.2.2.2.2⟩
    · obtain ⟨o, es, ep, ho, r⟩ := hm
      exact ⟨o, es, ep, hk _ o (fun z => (hf _ (sub _ z)).2.1 rfl) ho, r⟩
    · have nw : ∀ c, c ∈ wr → H c = none := fun c hc => (hf c (sub c hc)).1
      refine (I.hok b u e).stay (fun c v hc q => hk c v (fun z => ?_) q) (fun _ q => q) fun _ _ q => q
      rcases hc with z' | z'
      · rw [z', ] at z; rw [nw b z] at e; cases e
      · rw [nw c z] at z'; cases z'
  self := self
def enRow (vs : List V) (i : Nat) (xs : List V) : Prop := ∃ x, vs[i]? = some x ∧ xs = [.int (i : Int), x]
theorem turn_en {P : Program} {w : World} {K : PySem.W.Frag} {elts : List Expr} {kk : Nat} {tpos : Pos} (k : Sk) (t : Tok) (vs : List V) (e it : Addr) (hne : e ≠ it) :
    Turn P w K (.Tuple elts kk tpos) (Itw (fun H => k.Is K H vs) vs.length (enRow vs)) [e, it] e (fun i h => ((∃ old, IsEnum h e it ((i : Nat) : Int) old) ∧ k.At t it h i) ∧ ∀ a ∈ k.own, a ≠ e ∧ a ≠ it) := by
  refine turn_wt (wr := [e, it]) (by simp) (fun _ h => h) (fun i h st b hb => ?_) (fun i h h' st q => ?_) (fun i xs hr => ?_) (fun A i s Q E st h => ?_) (fun X hP hw hK hc i pins s σ H I hf hok st => ?_)
  · obtain ⟨⟨⟨old, he⟩, hi⟩, _⟩ := st
    rcases (show b = e ∨ b = it by simpa using hb) with z | z
    · rw [z]; exact ⟨_, he, fun v q => nomatch q⟩
    · rw [z]; exact hi.obj
  · obtain ⟨⟨⟨old, he⟩, hi⟩, ho⟩ := st
    exact ⟨⟨⟨old, q e (by simp) _ he⟩, hi.keep fun o x => q it (by simp) o x⟩, ho⟩
  · obtain ⟨x, _, e⟩ := hr
    rw [e]; exact (by decide : 2 ≤ 1000)
  · obtain ⟨⟨⟨_, he⟩, _⟩, _⟩ := st
    exact wpAny_pyIter_enum he h
  · subst hP hw hK
    obtain ⟨⟨⟨old, he⟩, hi⟩, ho⟩ := st
    obtain ⟨PP, St, hD, h1, h2, h3⟩ := Sk.draws I hok t it fun a ha => (ho a ha).2
    refine ⟨_, _, _, _, WalksT.enumFrom 0 (hD X.A.in1 (I.ok.hd hc)) e hne (fun z => ?_) (by simp), ⟨⟨old, by simpa using he⟩, h1 i hi⟩, fun j h q => ⟨⟨⟨_, by simpa using q.1.choose_spec⟩, h2 j h q.2⟩, ho⟩, fun j vals q => ?_⟩
    · rcases List.mem_cons.mp z with z | z
      · exact hne z
      · exact (ho e z).1 rfl
    · obtain ⟨tt, x, hx, ev⟩ := q
      obtain ⟨xv, hv, rx⟩ := h3 j x hx
      refine ⟨_, ⟨xv, hv, rfl⟩, ?_⟩
      rw [ev]
      exact .cons ⟨tt, by simp⟩ (.cons rx .nil)
def zpRow (vs us : List V) (i : Nat) (xs : List V) : Prop := ∃ x y, vs[i]? = some x ∧ us[i]? = some y ∧ xs = [x, y]
theorem turn_zp {P : Program} {w : World} {K : PySem.W.Frag} {elts : List Expr} {kk : Nat} {tpos : Pos} (k1 k2 : Sk) (t1 t2 : Tok) (vs us : List V) (N : Nat) (h1 : ∀ a ∈ k1.own, a < N) (h2 : ∀ a ∈ k2.own, a < N) :
    Turn P w K (.Tuple elts kk tpos) (Itw (fun H => k1.Is K H vs ∧ k2.Is K H us) (min vs.length us.length) (zpRow vs us)) [N + 4, N + 2, N + 3, N, N + 1] (N + 4)
      (fun i h => IsZip h (N + 4) (N + 2) (N + 3) .none ∧ IsTupOf2 h (N + 2) (.ref N) (.ref (N + 1 : Nat)) ∧ (∃ a1 a2, IsTupOf2 h (N + 3) a1 a2) ∧ k1.At t1 N h i ∧ k2.At t2 (N + 1) h i) := by
  have S := zip_sep2 h1 h2
  refine turn_wt (wr := [N + 4, N + 3, N, N + 1]) (by simp) (fun b hb => ?_) (fun i h st b hb => ?_) (fun i h h' st q => ?_) (fun i xs hr => ?_) (fun A i s Q E st h => ?_) (fun X hP hw hK hc i pins s σ H I hf hok st => ?_)
  · rcases (show b = N + 4 ∨ b = N + 3 ∨ b = N ∨ b = N + 1 by simpa using hb) with z | z | z | z <;> simp [z]
  · obtain ⟨hz, hT, ⟨a1, a2, hO⟩, i1, i2⟩ := st
    rcases (show b = N + 4 ∨ b = N + 2 ∨ b = N + 3 ∨ b = N ∨ b = N + 1 by simpa using hb) with z | z | z | z | z
    · rw [z]; exact ⟨_, hz, fun v q => nomatch q⟩
    · rw [z]; exact ⟨_, hT, fun v q => nomatch q⟩
    · rw [z]; exact ⟨_, hO, fun v q => nomatch q⟩
    · rw [z]; exact i1.obj
    · rw [z]; exact i2.obj
  · obtain ⟨hz, hT, ⟨a1, a2, hO⟩, i1, i2⟩ := st
    exact ⟨q _ (by simp) _ hz, q _ (by simp) _ hT, ⟨a1, a2, q _ (by simp) _ hO⟩, i1.keep fun o x => q _ (by simp) o x, i2.keep fun o x => q _ (by simp) o x⟩
  · obtain ⟨x, y, _, _, e⟩ := hr
    rw [e]; exact (by decide : 2 ≤ 1000)
  · exact wpAny_pyIter_zip st.1 h
  · subst hP hw hK
    obtain ⟨hz, hT, hO, i1, i2⟩ := st
    obtain ⟨P1, St1, hD1, a1, b1, c1⟩ := Sk.draws I hok.1 t1 N fun a ha => Nat.ne_of_lt (h1 a ha)
    obtain ⟨P2, St2, hD2, a2, b2, c2⟩ := Sk.draws I hok.2 t2 (N + 1 : Nat) fun a ha => Nat.ne_of_lt (Nat.lt_succ_of_lt (h2 a ha))
    refine ⟨_, _, _, _, WalksT.zipD2 S (hD1 X.A.in1 (I.ok.hd hc)) (hD2 X.A.in1 (I.ok.hd hc)), ⟨hz, hT, hO, a1 i i1, a2 i i2⟩, fun j h q => ⟨q.1, q.2.1, q.2.2.1, b1 j h q.2.2.2.1, b2 j h q.2.2.2.2⟩, fun j vals q => ?_⟩
    obtain ⟨x, y, hx, hy, ev⟩ := q
    obtain ⟨xv, hv, rx⟩ := c1 j x hx
    obtain ⟨yv, hw, ry⟩ := c2 j y hy
    refine ⟨_, ⟨xv, yv, hv, hw, rfl⟩, ?_⟩
    rw [ev]
    exact .cons rx (.cons ry .nil)
/-! ### over trees -/
section
variable {X : Cx} {M : Mp} {ρ : En} {R : List D → Mp → Prop} {elts : List Expr} {kk : Nat} {p pos tpos : Pos} {tg e e2 : Expr}
/-- the items of a list, a tuple, a text -/
def seqD : D → Option (List D)
  | .lst xs => some xs
  | .tup xs => some xs
  | .str x => some (x.map fun c => .str [c])
  | _ => none
theorem reps_str {K : PySem.W.Frag} {F : Hp} : ∀ x : List Nat, Reps K F (x.map fun c => V.str ⟨#[c]⟩) (x.map fun c => D.str [c])
  | [] => .nil
  | c :: x => .cons (.str [c]) (reps_str x)
theorem sk_of {K : PySem.W.Frag} {F : Hp} {v : V} {u : Value} {d : D} {xs : List D} (r : Rep K F v d) (ru : RelV v u) (h : seqD d = some xs) : ∃ k t vs, u = Sk.val k t ∧ k.Is K F vs ∧ Reps K F vs xs := by
  cases r with
  | lst hs hr =>
    cases h; cases ru
    exact ⟨.lst _, 0, _, rfl, .inl hs, hr⟩
  | tup hs hr =>
    cases h; cases ru
    exact ⟨.tup _, 0, _, rfl, hs, hr⟩
  | str x =>
    cases h
    obtain ⟨t, rfl⟩ := ru
    exact ⟨.str ⟨x.toArray⟩, t, _, rfl, rfl, by simpa [strV] using reps_str x⟩
  | _ => cases h
theorem Sk.Is.mono {K : PySem.W.Frag} {H H' : Hp} (s : Sub H H') {k : Sk} {vs : List V} (h : k.Is K H vs) : k.Is K H' vs := by
  cases k with
  | lst a => exact s.sqL h
  | tup a => exact s.sqT h
  | str x => exact h
def enD (xs : List D) : List D := (List.range xs.length).map fun (i : Nat) => D.tup [.int (i : Int), xs.getD i .non]
theorem enD_len (xs : List D) : (enD xs).length = xs.length := by simp [enD]
theorem enD_get {xs : List D} {i : Nat} {d : D} (h : xs[i]? = some d) : (enD xs)[i]? = some (.tup [.int (i : Int), d]) := by
  have hi : i < xs.length := (List.getElem?_eq_some_iff.mp h).1
  rw [List.getElem?_eq_getElem hi] at h
  simp [enD, hi, Option.some.inj h]
theorem Walks.en {K : PySem.W.Frag} {H F : Hp} {M : Mp} {k : Sk} {vs : List V} {xs : List D} (h : k.Is K F vs) (r : Reps K F vs xs) : Walks K (Itw (fun H => k.Is K H vs) vs.length (enRow vs)) H F M (enD xs) := by
  intro i H1 F1 M1 t
  have el := r.length
  have q : k.Is K H1 vs := h.mono (t.sub.trans t.good.sub)
  rw [enD_len]
  refine ⟨fun hi => ⟨⟨q, by omega⟩, fun x H2 hy => ?_⟩, fun hi => ⟨q, by omega⟩⟩
  obtain ⟨T, ys, rfl, hT, rfl, y, hy, rfl⟩ := hy
  obtain ⟨d, hd, rd⟩ := r.get' hy
  have t2 := Stp.new (o := .tup [.int (i : Int), y]) t.good hT
  exact ⟨_, _, enD_get hd, t2, .tup (.of upd_same) (.cons (.int _) (.cons ((t.trans t2).rep rd) .nil))⟩
def zpD (xs ys : List D) : List D := List.zipWith (fun a b => D.tup [a, b]) xs ys
theorem zpD_len (xs ys : List D) : (zpD xs ys).length = min xs.length ys.length := by simp [zpD]
theorem zpD_get {xs ys : List D} {i : Nat} {a b : D} (h : xs[i]? = some a) (h' : ys[i]? = some b) : (zpD xs ys)[i]? = some (.tup [a, b]) := by
  simp [zpD, List.getElem?_zipWith, h, h']
theorem Walks.zp {K : PySem.W.Frag} {H F : Hp} {M : Mp} {k1 k2 : Sk} {vs us : List V} {xs ys : List D} (h1 : k1.Is K F vs) (h2 : k2.Is K F us) (r1 : Reps K F vs xs) (r2 : Reps K F us ys) :
    Walks K (Itw (fun H => k1.Is K H vs ∧ k2.Is K H us) (min vs.length us.length) (zpRow vs us)) H F M (zpD xs ys) := by
  intro i H1 F1 M1 t
  have el := r1.length
  have el2 := r2.length
  have q := h1.mono (t.sub.trans t.good.sub)
  have q2 := h2.mono (t.sub.trans t.good.sub)
  rw [zpD_len]
  refine ⟨fun hi => ⟨⟨⟨q, q2⟩, by omega⟩, fun x H2 hy => ?_⟩, fun hi => ⟨⟨q, q2⟩, by omega⟩⟩
  obtain ⟨T, zs, rfl, hT, rfl, y, z, hy, hz, rfl⟩ := hy
  obtain ⟨d, hd, rd⟩ := r1.get' hy
  obtain ⟨c, hc, rc⟩ := r2.get' hz
  have t2 := Stp.new (o := .tup [y, z]) t.good hT
  exact ⟨_, _, zpD_get hd hc, t2, .tup (.of upd_same) (.cons ((t.trans t2).rep rd) (.cons ((t.trans t2).rep rc) .nil))⟩
/-- how an iterator over trees comes, and what it walks -/
structure WI2 (X : Cx) (tg iter : Expr) (ρ : En) (M : Mp) (R : List D → Mp → Prop) : Prop where
  run : ∀ (pins : Pins) (s : Shared) (σ : SS) (H F : Hp), Inv X pins σ H s → Sim X.K H F M σ ρ → wpAny (model X.prog X.w) X.A (eval iter X.env) (fun v s1 => wpAny (model X.prog X.w) X.A (pyIter v)
    (PIE X pins σ tg fun J H1 => ∃ F1 M1 xs, Stp X.K H F M H1 F1 M1 ∧ Walks X.K J H1 F1 M1 xs ∧ R xs M1) X.xe s1) X.xe s
theorem WI2.wi (h : WI2 X tg e ρ M R) : WI X tg e ρ M R := by
  refine ⟨fun σ H R' => ∃ F, Sim X.K H F M σ ρ ∧ ∀ J H1, (∃ F1 M1 xs, Stp X.K H F M H1 F1 M1 ∧ Walks X.K J H1 F1 M1 xs ∧ R xs M1) → R' J H1, ⟨fun pins s σ H R' I ⟨F, S, hR⟩ => ?_⟩, fun σ H F S R' hR => ⟨F, S, fun J H1 ⟨F1, M1, xs, t, w, q⟩ => hR J H1 F1 M1 xs t w q⟩⟩
  refine thn (h.run pins s σ H F I S) fun v s1 h1 => thn h1 fun itv s2 h2 => ?_
  obtain ⟨it, fp, tn, J, H', e1, I1, T, t0, f, q⟩ := h2
  exact ⟨it, fp, tn, J, H', e1, I1, T, t0, f, hR _ _ q⟩
theorem WI.enum (hm : X.mg "enumerate" = none) (h : WE X e ρ M fun d M1 => ∃ xs, seqD d = some xs ∧ R (enD xs) M1) (hg : Gl X "enumerate" := by rfl) (hs : starEach [e] X.env = [(false, eval e X.env)] := by rfl) :
    WI X (.Tuple elts kk tpos) (.Call (.Name "enumerate" p) [e] [] pos) ρ M R := by
  refine WI2.wi ⟨fun pins s σ H F I S => ?_⟩
  have ha := (pa_cons (lTE_ok (X := X) (e := e)) pa_nil (by rw [hs]; rfl)).run pos pins s σ H (fun vs H1 => ∃ v, vs = [v] ∧ REnd X H F M (fun d M1 => ∃ xs, seqD d = some xs ∧ R (enD xs) M1) v H1) I ⟨F, M, ρ, _, S, h, fun v H1 q => ⟨v, rfl, q⟩⟩
  refine Call_ (ld_blt I hg hm boot_enumerate (PyProof.Rows.callWith_type1 (thn ha fun us s1 ⟨vs, H1, I1, r1, q1⟩ => ?_) hs rfl))
  obtain ⟨v, rfl, F1, M1, d, t1, rp, xs, hd, q⟩ := q1
  cases r1 with
  | cons r rr =>
    cases rr
    obtain ⟨k, t, vs, rfl, his, hr⟩ := sk_of rp r hd
    have isH := his.mono t1.good.sub
    obtain ⟨G, B, g⟩ := Sk.begins I1 isH t
    have hlt := Sk.lt I1 isH
    refine enum1_begins B g fun h' he hit hk => wpAny_pyIter_enum he ?_
    have I2 : Inv X pins σ H1 { s1 with heap := h' } := I1.kept (t' := s1.toks) hk
    refine ⟨s1.heap.objs.size + 1, [s1.heap.objs.size + 1, s1.heap.objs.size], _, _, H1, rfl, I2, turn_en k t vs (s1.heap.objs.size + 1) s1.heap.objs.size (Nat.succ_ne_self _), ⟨⟨⟨.none, he⟩, .new k t hit⟩, fun a ha => ?_⟩, fun b hb => ?_, F1, M1, _, t1, Walks.en his hr, q⟩
    · have := hlt a ha
      exact ⟨Nat.ne_of_lt (Nat.lt_succ_of_lt this), Nat.ne_of_lt this⟩
    · have hle : s1.heap.objs.size ≤ b := by
        rcases (show b = s1.heap.objs.size + 1 ∨ b = s1.heap.objs.size by simpa using hb) with z | z
        · rw [z]; exact Nat.le_add_right _ _
        · rw [z]; exact Nat.le_refl _
      exact I1.fpOk hle (I1.hok.fresh hle)
/-- zip(a, b) -/
theorem WI.zip (hm : X.mg "zip" = none) (h : WA X [e, e2] ρ M fun ds M1 => ∃ a b xs ys, ds = [a, b] ∧ seqD a = some xs ∧ seqD b = some ys ∧ R (zpD xs ys) M1) (hg : Gl X "zip" := by rfl)
    (hs : starEach [e, e2] X.env = (false, eval e X.env) :: starEach [e2] X.env := by rfl) (hpl : (backTo pos (starEach [e2] X.env)).any (·.1) = false := by rfl) :
    WI X (.Tuple elts kk tpos) (.Call (.Name "zip" p) [e, e2] [] pos) ρ M R := by
  refine WI2.wi ⟨fun pins s σ H F I S => ?_⟩
  refine Call_ (ld_blt I hg hm (by decide +kernel : bootBuiltins "zip" = some (.type "zip")) (PyProof.Rows.callWith_type1 (thn (h.run pos pins s σ H F I S) fun us s1 ⟨vs, H1, F1, M1, ds, I1, r1, t1, rp, a, b, xs, ys, ed, hxs, hys, q⟩ => ?_) hs hpl))
  subst ed
  cases rp with
  | cons p1 p2 =>
    cases p2 with
    | cons p2 p3 =>
      cases p3
      cases r1 with
      | cons r1 r2 =>
        cases r2 with
        | cons r2 r3 =>
          cases r3
          obtain ⟨k1, t1', vs1, rfl, is1, hr1⟩ := sk_of p1 r1 hxs
          obtain ⟨k2, t2', vs2, rfl, is2, hr2⟩ := sk_of p2 r2 hys
          have isH1 := is1.mono t1.good.sub
          have isH2 := is2.mono t1.good.sub
          obtain ⟨G1, B1, g1⟩ := Sk.begins I1 isH1 t1'
          obtain ⟨G2, B2, g2⟩ := Sk.begins I1 isH2 t2'
          have lt1 := Sk.lt I1 isH1
          have lt2 := Sk.lt I1 isH2
          refine zip_begins2 B1 B2 g1 g2 fun h' hz hT hO hi1 hi2 hsz hk => wpAny_pyIter_zip hz ?_
          have I2 : Inv X pins σ H1 { s1 with heap := h' } := I1.kept (t' := s1.toks) hk
          refine ⟨s1.heap.objs.size + 4, _, _, _, H1, rfl, I2, turn_zp k1 k2 t1' t2' vs1 vs2 s1.heap.objs.size lt1 lt2, ⟨hz, hT, ⟨_, _, hO⟩, .new k1 t1' hi1, .new k2 t2' hi2⟩, fun b hb => ?_, F1, M1, _, t1, Walks.zp is1 is2 hr1 hr2, q⟩
          have hle : s1.heap.objs.size ≤ b := by
            rcases (show b = s1.heap.objs.size + 4 ∨ b = s1.heap.objs.size + 2 ∨ b = s1.heap.objs.size + 3 ∨ b = s1.heap.objs.size ∨ b = s1.heap.objs.size + 1 by simpa using hb) with z | z | z | z | z <;> (rw [z]; first | exact Nat.le_add_right _ _ | exact Nat.le_refl _)
          exact I1.fpOk hle (I1.hok.fresh hle)
/-- a text, sign by sign -/
theorem WI.str (h : WE X e ρ M fun d M1 => ∃ x, d = .str x ∧ R (x.map fun c => .str [c]) M1) : WI X tg e ρ M R := by
  refine ⟨_, pi_str lTE_ok, fun σ H F S R' hR => ⟨F, M, ρ, _, S, h, fun v H1 ⟨F1, M1, d, t, rp, x, ed, q⟩ => ?_⟩⟩
  subst ed
  cases rp
  refine ⟨_, rfl, hR _ H1 F1 M1 _ t (fun i H2 F2 M2 t2 => ?_) q⟩
  rw [List.length_map]
  refine ⟨fun hi => ⟨by simpa [Its] using hi, fun v H3 hy => ?_⟩, fun hi => by simp [Its, hi]⟩
  obtain ⟨e1, c, hc, e2⟩ := hy
  subst e1 e2
  have hc' : x[i]? = some c := by simpa using hc
  exact ⟨F2, .str [c], by simp [hc'], Stp.refl t2.good, .str [c]⟩
end
end TL
end
section
set_option maxRecDepth 100000
/-! TF: list comprehensions over tree values. -/
namespace TL
open PySem PySem.Spec PyProof.Rows L2
/-- the names of the block forgotten -/
def wipeE (ρ : En) : List Nat → En
  | [] => ρ
  | v :: vs => (wipeE ρ vs).set v none
theorem wipeE_length (ρ : En) : ∀ vs, (wipeE ρ vs).length = ρ.length
  | [] => rfl
  | v :: vs => by unfold wipeE; rw [List.length_set, wipeE_length ρ vs]
theorem wipeE_some {ρ : En} {i : Nat} {d : D} : ∀ {vs : List Nat}, (wipeE ρ vs)[i]? = some (some d) → ρ[i]? = some (some d) ∧ i ∉ vs
  | [], h => ⟨h, by simp⟩
  | v :: vs, h => by
    unfold wipeE at h
    by_cases hi : v = i
    · subst hi
      by_cases hv : v < (wipeE ρ vs).length
      · rw [List.getElem?_set_self hv] at h; cases h
      · rw [List.getElem?_eq_none (by simpa using hv)] at h; cases h
    · rw [List.getElem?_set_ne hi] at h
      obtain ⟨h1, h2⟩ := wipeE_some h
      exact ⟨h1, by simp only [List.mem_cons, not_or]; exact ⟨fun e => hi e.symm, h2⟩⟩
theorem wipe_keep {σ : SS} {i : Nat} : ∀ {vs : List Nat}, i ∉ vs → (wipe σ vs)[i]? = σ[i]?
  | [], _ => rfl
  | v :: vs, h => by
    unfold wipe
    rw [List.getElem?_set_ne (fun e => h (by simp [e]))]
    exact wipe_keep fun q => h (List.mem_cons_of_mem _ q)
theorem wipe_at {σ : SS} {i : Nat} : ∀ {vs : List Nat}, i ∈ vs → i < σ.length → (wipe σ vs)[i]? = some none
  | v :: vs, h, hl => by
    unfold wipe
    by_cases e : v = i
    · subst e
      exact List.getElem?_set_self (by rw [wipe_length]; exact hl)
    · rw [List.getElem?_set_ne e]
      exact wipe_at ((List.mem_cons.mp h).resolve_left fun q => e q.symm) hl
/-- forgetting twice, with a name of the block set between -/
theorem wipe_set {σ : SS} {i : Nat} {v : V} {vs : List Nat} (h : i ∈ vs) : wipe ((wipe σ vs).set i (some v)) vs = wipe σ vs := by
  apply List.ext_getElem?
  intro j
  by_cases hl : j < σ.length
  · by_cases hj : j ∈ vs
    · rw [wipe_at hj (by rw [List.length_set, wipe_length]; exact hl), wipe_at hj hl]
    · rw [wipe_keep hj, List.getElem?_set_ne (fun e : i = j => hj (by rw [← e]; exact h)), wipe_keep hj]
  · rw [List.getElem?_eq_none (by rw [wipe_length, List.length_set, wipe_length]; omega), List.getElem?_eq_none (by rw [wipe_length]; omega)]
theorem wipe_set2 {σ : SS} {i j : Nat} {v u : V} {vs : List Nat} (h : i ∈ vs) (h2 : j ∈ vs) : wipe (((wipe σ vs).set i (some v)).set j (some u)) vs = wipe σ vs := by
  apply List.ext_getElem?
  intro k
  by_cases hl : k < σ.length
  · by_cases hj : k ∈ vs
    · rw [wipe_at hj (by rw [List.length_set, List.length_set, wipe_length]; exact hl), wipe_at hj hl]
    · rw [wipe_keep hj, List.getElem?_set_ne (fun e : j = k => hj (by rw [← e]; exact h2)), List.getElem?_set_ne (fun e : i = k => hj (by rw [← e]; exact h)), wipe_keep hj]
  · rw [List.getElem?_eq_none (by rw [wipe_length, List.length_set, List.length_set, wipe_length]; omega), List.getElem?_eq_none (by rw [wipe_length]; omega)]
section
variable {K : PySem.W.Frag} {H F : Hp} {M : Mp} {σ : SS} {ρ : En}
theorem Sim.wipe (S : Sim K H F M σ ρ) (vs : List Nat) : Sim K H F M (L2.wipe σ vs) (wipeE ρ vs) := by
  refine ⟨S.good, fun i d h => ?_, by rw [wipe_length, wipeE_length]; exact S.len⟩
  obtain ⟨h1, h2⟩ := wipeE_some h
  obtain ⟨v, h3, r⟩ := S.slot i d h1
  exact ⟨v, by rw [wipe_keep h2]; exact h3, r⟩
end
/-- a comprehension's block -/
abbrev Blk (X : Cx) (scope : Scope) (s : Shared) (H : Hp) (C : Addr) (cl : List (Str × Addr)) (fp : List Addr) : Cx := X.blk s H scope (compEnvC scope cl C X.env) fp
/-- a clause's tests -/
structure WTs (X : Cx) (ifs : List Expr) (ρ : En) (M : Mp) (Q : Bool → Mp → Prop) : Prop where
  run : ∀ (pins : Pins) (s : Shared) (σ : SS) (H F : Hp), Inv X pins σ H s → Sim X.K H F M σ ρ →
    wpAny (model X.prog X.w) X.A (forIn ifs true fun c r => if r = true then do let ok ← isTrue c X.env (eval c X.env); pure (ForInStep.yield ok) else pure (ForInStep.yield r)) (BEnd X pins σ H F M Q) X.xe s
theorem WTs.nil {X : Cx} {ρ : En} {M : Mp} {Q : Bool → Mp → Prop} (h : Q true M) : WTs X [] ρ M Q := ⟨fun _ _ _ _ _ I S => wpAny_tests_nil (BEnd.of I S.good h)⟩
theorem WTs.one {X : Cx} {ρ : En} {M : Mp} {Q : Bool → Mp → Prop} {c : Expr} (h : WT X c ρ M Q) : WTs X [c] ρ M Q := ⟨fun pins s σ H F I S => wpAny_tests_one (h.run pins s σ H F I S)⟩

section
variable {X : Cx} {scope : Scope} {tg elt iter : Expr} {ifs : List Expr} {ρ : En} {M : Mp} {Q : DQ} {own : List (Str × Nat)} {pos : Pos}
/-- the loop of a list comprehension: what is left, the block's names, what is made, the heap -/
def CompT (X : Cx) (scope : Scope) (elt : Expr) (ifs : List Expr) (bind : D → Option En) (Q : DQ) : List D → List D → Mp → Prop
  | [], acc, M => Q (.lst acc) M
  | x :: xs, acc, M => acc.length < sizeLine ∧ ∃ ρ1, bind x = some ρ1 ∧ ∃ B : Bool → Mp → Prop, (∀ s H C cl fp, WTs (Blk X scope s H C cl fp) ifs ρ1 M B) ∧
    (∀ M1, B false M1 → CompT X scope elt ifs bind Q xs acc M1) ∧ (∀ M1, B true M1 → ∃ Y : D → Mp → Prop, (∀ s H C cl fp, WE (Blk X scope s H C cl fp) elt ρ1 M1 Y) ∧ ∀ y M2, Y y M2 → CompT X scope elt ifs bind Q xs (acc ++ [y]) M2)
/-- a target's reading that binds as bind does, and leaves the block's names alone -/
def BindOk (K : PySem.W.Frag) (g : TG) (vs : List Nat) (ρ : En) (bind : D → Option En) : Prop :=
  ∀ (v : V) (x : D) (σ : SS) (H F : Hp) (M : Mp) (ρ1 : En) (Q : SS → Hp → Prop), Sim K H F M (L2.wipe σ vs) (wipeE ρ vs) → Rep K F v x → bind x = some ρ1 →
    (∀ σ', Sim K H F M σ' ρ1 → L2.wipe σ' vs = L2.wipe σ vs → Q σ' H) → g v (L2.wipe σ vs) H Q
theorem bind_name {K : PySem.W.Frag} {i : Nat} {vs : List Nat} (h : i ∈ vs) : BindOk K (gName i) vs ρ fun x => some ((wipeE ρ vs).set i (some x)) := by
  intro v x σ H F M ρ1 Q S r e hq
  cases e
  exact hq _ (S.set i r) (wipe_set h)
theorem bind_two {K : PySem.W.Frag} {i j : Nat} {vs : List Nat} (h : i ∈ vs) (h2 : j ∈ vs) : BindOk K (gTup K 2 (gCons (gName i) (gCons (gName j) gNil))) vs ρ
    fun x => match x with
      | .tup [a, b] => some (((wipeE ρ vs).set i (some a)).set j (some b))
      | _ => none := by
  intro v x σ H F M ρ1 Q S r e hq
  dsimp only at e
  split at e
  · rename_i a b
    cases e
    cases r with
    | tup hs hr =>
      cases hr with
      | cons r1 hr =>
        cases hr with
        | cons r2 hr =>
          cases hr
          exact ⟨_, _, rfl, S.good.sub.sqT hs, rfl, _, _, rfl, _, _, rfl, rfl, hq _ ((S.set i r1).set j r2) (wipe_set2 h h2)⟩
  · cases e
/-- the readings of a list comprehension -/
theorem lc_reads {g : TG} {bind : D → Option En} (hb : BindOk X.K g (own.map (·.2)) ρ bind) (h : WI X tg iter ρ M fun xs M1 => CompT X scope elt ifs bind Q xs [] M1) :
    ∃ wi tt te, PI X tg iter wi ∧ (∀ (s : Shared) (H : Hp) (C : Addr) (cl : List (Str × Addr)) (fp : List Addr), PTs (Blk X scope s H C cl fp) ifs tt) ∧ (∀ (s : Shared) (H : Hp) (C : Addr) (cl : List (Str × Addr)) (fp : List Addr), PE (Blk X scope s H C cl fp) elt te) ∧
      ∀ (σ0 : SS) (H0 F0 : Hp) (R : VK), Sim X.K H0 F0 M σ0 ρ → (∀ v H' F' M' d, Stp X.K H0 F0 M H' F' M' → Rep X.K F' v d → Q d M' → R v H') → tLc wi g tt te (own.map (·.2)) σ0 H0 R := by
  obtain ⟨wi, hi, h⟩ := h
  -- readings of the tests and of the element, from words of every block
  let tt : TT := fun σ H R => ∃ F M ρ B, Sim X.K H F M σ ρ ∧ (∀ s H C cl fp, WTs (Blk X scope s H C cl fp) ifs ρ M B) ∧ ∀ b M1 H' F', Stp X.K H F M H' F' M1 → B b M1 → R b H'
  let te : TE := fun σ H R => ∃ F M ρ Y, Sim X.K H F M σ ρ ∧ (∀ s H C cl fp, WE (Blk X scope s H C cl fp) elt ρ M Y) ∧ ∀ v y M2 H' F', Stp X.K H F M H' F' M2 → Rep X.K F' v y → Y y M2 → R v H'
  have pt : ∀ (s : Shared) (H : Hp) (C : Addr) (cl : List (Str × Addr)) (fp : List Addr), PTs (Blk X scope s H C cl fp) ifs tt := fun s H C cl fp => ⟨fun pins s' σ H' R I ⟨F, M, ρ, B, S, w, q⟩ =>
    thn ((w s H C cl fp).run pins s' σ H' F I S) fun b' s2 ⟨H2, F2, M2, I2, t2, e⟩ => ⟨H2, I2, q _ _ H2 F2 t2 e⟩⟩
  have pe : ∀ (s : Shared) (H : Hp) (C : Addr) (cl : List (Str × Addr)) (fp : List Addr), PE (Blk X scope s H C cl fp) elt te := fun s H C cl fp => ⟨fun pins s' σ H' R I ⟨F, M, ρ, Y, S, w, q⟩ =>
    thn ((w s H C cl fp).run pins s' σ H' F I S) fun u s2 ⟨v, H2, F2, M3, d, I2, r2, t2, p2, e⟩ => ⟨v, H2, I2, r2, q v d M3 H2 F2 t2 p2 e⟩⟩
  refine ⟨wi, tt, te, hi, pt, pe, fun σ0 H0 F0 R0 S0 hR0 => ?_⟩
  refine h σ0 H0 F0 S0 _ fun J H1 F1 M1 xs t1 wk ct D hD => ?_
  have hDF : F1 D = none := t1.good.freeF hD
  have hDM : M1 D = none := t1.good.free hD
  -- behind i turns
  let St : Nat → Hp → Prop := fun i H => ∃ F M' acc vs, Stp X.K H1 F1 M1 H F M' ∧ F D = none ∧ M' D = none ∧ H D = some (.lst vs) ∧ Reps X.K F vs acc ∧ CompT X scope elt ifs bind Q (xs.drop i) acc M'
  have other : ∀ {H F : Hp} {M' : Mp} {o : HO}, Stp X.K H1 F1 M1 H F M' → F D = none → M' D = none → Stp X.K H1 F1 M1 (upd H D o) F M' := fun {H F M' o} t f m =>
    ⟨fun b u e n => by
      have hb : b ≠ D := ne_of_none e hD
      rw [upd_ne hb]; exact t.keep b u e n, t.sub, t.news, t.good.other f m⟩
  refine ⟨fun i m H => m = xs.length - i ∧ i ≤ xs.length ∧ St i H, ⟨xs.length, by simp, Nat.zero_le _, F1, M1, [], [], other (Stp.refl t1.good) hDF hDM, hDF, hDM, upd_same, .nil, ct⟩, ?_⟩
  rintro i m H ⟨rfl, hi, F, M', acc, vs, t2, f2, m2, hl, hr, c2⟩
  by_cases hlt : i < xs.length
  · obtain ⟨hgo, hy⟩ := (wk i H F M' t2).1 hlt
    refine .inr ⟨hgo, St (i + 1), fun H' p => ⟨_, by omega, rfl, hlt, p⟩, fun x H' y => ?_⟩
    obtain ⟨F3, d, hd, t3, rp⟩ := hy x H' y
    have ed : xs.drop i = d :: xs.drop (i + 1) := by
      rw [List.drop_eq_getElem_cons hlt]
      have := List.getElem?_eq_getElem hlt
      rw [hd] at this
      rw [Option.some.inj this]
    rw [ed] at c2
    obtain ⟨hz, ρ1, eb, B, w4, q4, q5⟩ := c2
    have keepD : ∀ {H F : Hp} {M' : Mp} {H' F' : Hp} {M'' : Mp} {u : HO}, Stp X.K H F M' H' F' M'' → F D = none → M' D = none → H D = some u → H' D = some u ∧ F' D = none ∧ M'' D = none := fun {H F M' H' F' M'' u} t f m e => by
      obtain ⟨k1, k2⟩ := t.keep D u e m
      refine ⟨k1, ?_, k2⟩
      cases q : F' D with
      | none => rfl
      | some o =>
        rcases t.news D o q with z | z | z
        · rw [f] at z; cases z
        · exact absurd m z
        · rw [e] at z; cases z
    obtain ⟨hl3, f3, m3⟩ := keepD t3 f2 m2 hl
    have S3 := ((S0.step t1).step (t2.trans t3)).wipe (own.map (·.2))
    refine hb x d σ0 H' F3 M' ρ1 _ S3 rp eb fun σ4 S4 ew => ⟨ew, F3, M', ρ1, B, S4, w4, fun b M4 H5 F5 t5 hB => ?_⟩
    obtain ⟨hl5, f5, m5⟩ := keepD t5 f3 m3 hl3
    cases b with
    | false =>
      rw [if_neg Bool.false_ne_true]
      exact ⟨F5, M4, acc, vs, (t2.trans t3).trans t5, f5, m5, hl5, (t3.trans t5).reps hr, q4 M4 hB⟩
    | true =>
      rw [if_pos rfl]
      obtain ⟨Y, w6, c6⟩ := q5 M4 hB
      refine ⟨F5, M4, ρ1, Y, S4.step t5, w6, fun v y M6 H7 F7 t7 r7 hY => ?_⟩
      obtain ⟨hl7, f7, m7⟩ := keepD t7 f5 m5 hl5
      refine ⟨vs, hl7, by rw [hr.length]; exact hz, F7, M6, acc ++ [y], vs ++ [v], other (((t2.trans t3).trans t5).trans t7) f7 m7, f7, m7, upd_same, (((t3.trans t5).trans t7).reps hr).append (.cons r7 .nil), c6 y M6 hY⟩
  · have e : i = xs.length := by omega
    subst e
    rw [List.drop_length] at c2
    refine .inl ⟨(wk _ H F M' t2).2 rfl, hR0 _ _ (upd F D (.lst vs)) M' _ ?_ (.lst (.of upd_same) (hr.mono (sub_upd f2))) c2⟩
    refine t1.trans ⟨t2.keep, t2.sub.trans (sub_upd f2), fun b o e => ?_, ⟨fun b o e => ?_, fun b m e => ?_, fun a m e => ?_⟩⟩
    · by_cases hb' : b = D
      · subst hb'; exact .inr (.inr hD)
      · rw [upd_ne hb'] at e; exact t2.news b o e
    · by_cases hb' : b = D
      · subst hb'; rw [upd_same] at e; rw [hl]; exact e
      · rw [upd_ne hb'] at e; exact t2.good.sub b o e
    · have hb' : b ≠ D := fun z => by rw [z, m2] at e; cases e
      rw [upd_ne hb']; exact t2.good.dis b m e
    · obtain ⟨o, ho, ro⟩ := t2.good.real a m e
      exact ⟨o, ho, ro.mono (sub_upd f2)⟩
theorem WE.lc {g : TG} {bind : D → Option En} (hc : X.calm = true) (hN : X.N.Nodup) (ok : BlkOk X.N X.env.scope scope own) (hb : BindOk X.K g (own.map (·.2)) ρ bind)
    (hg : ∀ (s : Shared) (H : Hp) (C : Addr) (cl : List (Str × Addr)) (fp : List Addr), PG (Blk X scope s H C cl fp) tg g)
    (h : WI X tg iter ρ M fun xs M1 => CompT X scope elt ifs bind Q xs [] M1) (hs : ∀ x, foldedSetIterable iter X.env x = pure x := by intro _; rfl) : WE X (.ListComp elt [⟨tg, iter, ifs, 0⟩] scope pos) ρ M Q := by
  obtain ⟨wi, tt, te, hi, pt, pe, q⟩ := lc_reads hb h
  exact .pe (pe_lc hc hN hi ok hg pt pe hs) fun σ H F S => q σ H F _ S fun v H' F' M' d t r q => ⟨F', M', d, t, r, q⟩
/-- n = [..] -/
theorem WS.setLc {g : TG} {bind : D → Option En} {E : TEs} {n : Str} {pos' spos : Pos} (i : Nat) (hc : X.calm = true) (hN : X.N.Nodup) (ok : BlkOk X.N X.env.scope scope own) (hb : BindOk X.K g (own.map (·.2)) ρ bind)
    (hg : ∀ (s : Shared) (H : Hp) (C : Addr) (cl : List (Str × Addr)) (fp : List Addr), PG (Blk X scope s H C cl fp) tg g)
    (h : WI X tg iter ρ M fun xs M1 => CompT X scope elt ifs bind (fun d M2 => E.nx (ρ.set i (some d)) M2) xs [] M1) (hi : X.N[i]? = some n := by rfl) (hl : X.env.scope.names.lookup n = some .local := by rfl)
    (hsw : swapsWith (.ListComp elt [⟨tg, iter, ifs, 0⟩] scope pos) (some (.Name n pos')) spos.line X.env = pure true := by rfl) (hs : ∀ x, foldedSetIterable iter X.env x = pure x := by intro _; rfl) :
    WS X (.Assign [.Name n pos'] (.ListComp elt [⟨tg, iter, ifs, 0⟩] scope pos) spos) ρ M E := by
  obtain ⟨wi, tt, te, hi', pt, pe, q⟩ := lc_reads hb h
  exact .ps (ps_setLc hc hN hi hl hsw hi' ok hg pt pe hs) fun σ H F S => q σ H F _ S fun v H' F' M' d t r q => ⟨F', M', _, t, (S.step t).set i r, q⟩
end
end TL
end
section
set_option maxRecDepth 100000
/-! TG: operations by values. -/
namespace TL
open PySem PySem.Spec PyProof.Rows L2

section
variable {X : Cx} {M : Mp} {Q : DQ} {i j : Int}
theorem VO.ii {f : Value → Value → Sem Value} {g : Int → Int → V} (p : OpR X f (rI0 g)) {d : D} (hd : ∀ F, Rep X.K F (g i j) d) (h : Q d M) : VO X f (.int i) (.int j) M Q :=
  .op p fun H F v1 v2 R r1 r2 => by cases r1; cases r2; exact ⟨i, j, rfl, rfl, F, M, d, Stp.refl R, hd F, h⟩
theorem VO.iiC {f : Value → Value → Sem Value} {C : Int → Int → Prop} {g : Int → Int → V} (p : OpR X f (rI C g)) {d : D} (hc : C i j) (hd : ∀ F, Rep X.K F (g i j) d) (h : Q d M) : VO X f (.int i) (.int j) M Q :=
  .op p fun H F v1 v2 R r1 r2 => by cases r1; cases r2; exact ⟨i, j, rfl, rfl, hc, F, M, d, Stp.refl R, hd F, h⟩
theorem VO.add (h : Q (.int (i + j)) M) : VO X (binaryOp .Add) (.int i) (.int j) M Q := .ii op_add (fun _ => .int _) h
theorem VO.sub (h : Q (.int (i - j)) M) : VO X (binaryOp .Sub) (.int i) (.int j) M Q := .ii op_sub (fun _ => .int _) h
theorem VO.mul (hc : CMul i j) (h : Q (.int (i * j)) M) : VO X (binaryOp .Mult) (.int i) (.int j) M Q := .iiC op_mul hc (fun _ => .int _) h
theorem VO.fdiv (h1 : 0 < j) (h2 : j < 1073741824) (h : Q (.int (i / j)) M) : VO X (binaryOp .FloorDiv) (.int i) (.int j) M Q := .iiC op_fdiv ⟨h1, h2⟩ (fun _ => .int _) h
theorem VO.mod (h1 : 0 < j) (h : Q (.int (i % j)) M) : VO X (binaryOp .Mod) (.int i) (.int j) M Q := .iiC op_mod h1 (fun _ => .int _) h
theorem VO.pow (hc : CPow i j) (h : Q (.int (i ^ j.toNat)) M) : VO X (binaryOp .Pow) (.int i) (.int j) M Q := .iiC op_pow hc (fun _ => .int _) h
theorem VO.lt (h : Q (.bl (decide (i < j))) M) : VO X (compareOp .Lt) (.int i) (.int j) M Q := .ii op_lt (fun _ => .bl _) h
theorem VO.le (h : Q (.bl (decide (i ≤ j))) M) : VO X (compareOp .LtE) (.int i) (.int j) M Q := .ii op_le (fun _ => .bl _) h
theorem VO.gt (h : Q (.bl (decide (j < i))) M) : VO X (compareOp .Gt) (.int i) (.int j) M Q := .ii op_gt (fun _ => .bl _) h
theorem VO.ge (h : Q (.bl (decide (j ≤ i))) M) : VO X (compareOp .GtE) (.int i) (.int j) M Q := .ii op_ge (fun _ => .bl _) h
theorem VO.eqI (h : Q (.bl (decide (i = j))) M) : VO X (compareOp .Eq) (.int i) (.int j) M Q :=
  .op op_eq fun H F v1 v2 R r1 r2 => by
    cases r1; cases r2
    refine ⟨rfl, F, M, _, Stp.refl R, .bl _, ?_⟩
    simpa using h
theorem VO.neI (h : Q (.bl (!decide (i = j))) M) : VO X (compareOp .NotEq) (.int i) (.int j) M Q :=
  .op op_ne fun H F v1 v2 R r1 r2 => by
    cases r1; cases r2
    refine ⟨rfl, F, M, _, Stp.refl R, .bl _, ?_⟩
    simpa using h
variable {x y : List Nat}
theorem VO.eqS (h : Q (.bl (decide (x = y))) M) : VO X (compareOp .Eq) (.str x) (.str y) M Q :=
  .op op_eq fun H F v1 v2 R r1 r2 => by
    cases r1; cases r2
    refine ⟨rfl, F, M, _, Stp.refl R, .bl _, ?_⟩
    simpa using h
theorem VO.neS (h : Q (.bl (!decide (x = y))) M) : VO X (compareOp .NotEq) (.str x) (.str y) M Q :=
  .op op_ne fun H F v1 v2 R r1 r2 => by
    cases r1; cases r2
    refine ⟨rfl, F, M, _, Stp.refl R, .bl _, ?_⟩
    simpa using h
theorem VO.neB {a b : Bool} (h : Q (.bl (!decide (a = b))) M) : VO X (compareOp .NotEq) (.bl a) (.bl b) M Q :=
  .op op_ne fun H F v1 v2 R r1 r2 => by
    cases r1; cases r2
    refine ⟨rfl, F, M, _, Stp.refl R, .bl _, ?_⟩
    simpa using h
theorem VO.eqB {a b : Bool} (h : Q (.bl (decide (a = b))) M) : VO X (compareOp .Eq) (.bl a) (.bl b) M Q :=
  .op op_eq fun H F v1 v2 R r1 r2 => by
    cases r1; cases r2
    refine ⟨rfl, F, M, _, Stp.refl R, .bl _, ?_⟩
    simpa using h
theorem VO.addS (hl : x.length + y.length ≤ sizeLine) (h : Q (.str (x ++ y)) M) : VO X (binaryOp .Add) (.str x) (.str y) M Q :=
  .op op_add_str fun H F v1 v2 R r1 r2 => by
    cases r1; cases r2
    refine ⟨_, _, rfl, rfl, by simpa [Str.length] using hl, F, M, _, Stp.refl R, ?_, h⟩
    have e : (⟨x.toArray⟩ : Str) ++ ⟨y.toArray⟩ = ⟨(x ++ y).toArray⟩ := by
      show Str.mk (x.toArray ++ y.toArray) = _
      simp
    rw [e]; exact .str _
/-- is None, is not None -/
def isNon : D → Bool
  | .non => true
  | _ => false
theorem rep_non {K : PySem.W.Frag} {F : Hp} {v : V} {d : D} (r : Rep K F v d) : decide (v = .non) = isNon d := by
  cases r <;> simp [isNon]
theorem VO.isN {x : D} (h : Q (.bl (isNon x)) M) : VO X (compareOp .Is) x .non M Q :=
  .op op_isN fun H F v1 v2 R r1 r2 => by
    cases r2
    refine ⟨rfl, F, M, _, Stp.refl R, .bl _, ?_⟩
    rw [rep_non r1]; exact h
theorem VO.notN {x : D} (h : Q (.bl (!isNon x)) M) : VO X (compareOp .IsNot) x .non M Q :=
  .op op_notN fun H F v1 v2 R r1 r2 => by
    cases r2
    refine ⟨rfl, F, M, _, Stp.refl R, .bl _, ?_⟩
    rw [rep_non r1]; exact h
theorem VO.notBl {a b : Bool} (h : Q (.bl (!decide (a = b))) M) : VO X (compareOp .IsNot) (.bl a) (.bl b) M Q :=
  .op op_isnot_bl fun H F v1 v2 R r1 r2 => by
    cases r1; cases r2
    exact ⟨a, b, rfl, rfl, F, M, _, Stp.refl R, .bl _, h⟩
theorem VO.isBl {a b : Bool} (h : Q (.bl (decide (a = b))) M) : VO X (compareOp .Is) (.bl a) (.bl b) M Q :=
  .op op_is_bl fun H F v1 v2 R r1 r2 => by
    cases r1; cases r2
    exact ⟨a, b, rfl, rfl, F, M, _, Stp.refl R, .bl _, h⟩
/-- a sign in a text -/
theorem VO.inSign {c : Nat} (h : Q (.bl (decide (c ∈ y))) M) : VO X (compareOp .In) (.str [c]) (.str y) M Q :=
  .op op_in_sign fun H F v1 v2 R r1 r2 => by
    cases r1; cases r2
    exact ⟨c, _, rfl, rfl, F, M, _, Stp.refl R, .bl _, by simpa using h⟩
theorem VO.notInSign {c : Nat} (h : Q (.bl (!decide (c ∈ y))) M) : VO X (compareOp .NotIn) (.str [c]) (.str y) M Q :=
  .op op_notIn_sign fun H F v1 v2 R r1 r2 => by
    cases r1; cases r2
    exact ⟨c, _, rfl, rfl, F, M, _, Stp.refl R, .bl _, by simpa using h⟩
end

/-! ### data: ==, in -/
mutual
def py : D → PyData
  | .non => .none
  | .bl b => .bool b
  | .int i => .int i
  | .str x => .str ⟨x.toArray⟩
  | .tup xs => .tuple (pys xs)
  | .lst xs => .list (pys xs)
  | .ty _ | .ref _ | .dic _ | .ins _ _ | .xn _ _ _ | .tun _ => .none
def pys : List D → List PyData
  | [] => []
  | d :: ds => py d :: pys ds
end
mutual
/-- none, bools, ints, texts, tuples and lists of them -/
def isPy : D → Bool
  | .non | .bl _ | .int _ | .str _ => true
  | .tup xs | .lst xs => arePy xs
  | .ty _ | .ref _ | .dic _ | .ins _ _ | .xn _ _ _ | .tun _ => false
def arePy : List D → Bool
  | [] => true
  | d :: ds => isPy d && arePy ds
end
theorem pys_map : ∀ ds : List D, pys ds = ds.map py
  | [] => rfl
  | d :: ds => by rw [List.map_cons, ← pys_map ds]; rfl
theorem arePy_all : ∀ ds : List D, arePy ds = ds.all isPy
  | [] => rfl
  | d :: ds => by rw [List.all_cons, ← arePy_all ds]; rfl
section
variable {K : PySem.W.Frag} {F : Hp}
mutual
theorem Rep.dp : ∀ {v : V} {d : D}, Rep K F v d → isPy d = true → Dp K F v (py d)
  | _, _, .non, _ => .non
  | _, _, .bl b, _ => .bl b
  | _, _, .int i, _ => .int i
  | _, _, .str x, _ => .str _
  | _, _, .ty _, h => by simp [isPy] at h
  | _, _, .ref _, h => by simp [isPy] at h
  | _, _, .tup s r, h => .tup s (Reps.dp r (by simpa [isPy] using h))
  | _, _, .lst s r, h => .lst (.inl s) (Reps.dp r (by simpa [isPy] using h))
  | _, _, .ins _ _, h => by simp [isPy] at h
  | _, _, .dic _ _, h => by simp [isPy] at h
  | _, _, .xn _ _, h => by simp [isPy] at h
  | _, _, .tun _ _ _ _, h => by simp [isPy] at h
theorem Reps.dp : ∀ {vs : List V} {ds : List D}, Reps K F vs ds → arePy ds = true → DpAll K F vs (pys ds)
  | _, _, .nil, _ => .nil
  | _, _, .cons a r, h => by
    simp only [arePy, Bool.and_eq_true] at h
    exact .cons (Rep.dp a h.1) (Reps.dp r h.2)
end
end
section
variable {K : PySem.W.Frag} {F F' : Hp} (s : Sub F F')
include s
mutual
theorem dp_mono : ∀ {v : V} {d : PyData}, Dp K F v d → Dp K F' v d
  | _, _, .non => .non
  | _, _, .bl b => .bl b
  | _, _, .int i => .int i
  | _, _, .str x => .str x
  | _, _, .lst h r => .lst (s.sqL h) (dp_monos r)
  | _, _, .tup h r => .tup (s.sqT h) (dp_monos r)
theorem dp_monos : ∀ {v : List V} {d : List PyData}, DpAll K F v d → DpAll K F' v d
  | _, _, .nil => .nil
  | _, _, .cons h r => .cons (dp_mono h) (dp_monos r)
end
end
/-- data that may be compared -/
def shp (d : D) : Bool := isPy d && SeqAt.shaped (py d)
def eqD (x y : D) : Bool := PyData.eqv (py x) (py y)
section
variable {X : Cx} {M : Mp} {Q : DQ} {x y : D}
theorem VO.eqD (hu : X.A.units + 64 < cLine) (hx : shp x = true) (hy : shp y = true) (h : Q (.bl (eqD x y)) M) : VO X (compareOp .Eq) x y M Q :=
  .op (op_eqD hu) fun H F v1 v2 R r1 r2 => by
    simp only [shp, Bool.and_eq_true] at hx hy
    exact ⟨_, _, dp_mono R.sub (r1.dp hx.1), dp_mono R.sub (r2.dp hy.1), hx.2, hy.2, F, M, _, Stp.refl R, .bl _, h⟩
theorem VO.neD (hu : X.A.units + 64 < cLine) (hx : shp x = true) (hy : shp y = true) (h : Q (.bl (!TL.eqD x y)) M) : VO X (compareOp .NotEq) x y M Q :=
  .op (op_neD hu) fun H F v1 v2 R r1 r2 => by
    simp only [shp, Bool.and_eq_true] at hx hy
    exact ⟨_, _, dp_mono R.sub (r1.dp hx.1), dp_mono R.sub (r2.dp hy.1), hx.2, hy.2, F, M, _, Stp.refl R, .bl _, h⟩
theorem VO.inD {ys : List D} (hu : X.A.units + 65 < cLine) (hx : shp x = true) (hy : shp (.lst ys) = true) (h : Q (.bl (ys.any fun z => TL.eqD z x)) M) : VO X (compareOp .In) x (.lst ys) M Q :=
  .op (op_inD hu) fun H F v1 v2 R r1 r2 => by
    simp only [shp, Bool.and_eq_true] at hx hy
    refine ⟨_, pys ys, dp_mono R.sub (r1.dp hx.1), dp_mono R.sub (r2.dp hy.1), hx.2, hy.2, F, M, _, Stp.refl R, .bl _, ?_⟩
    have e : (pys ys).any (fun z => PyData.eqv z (py x)) = ys.any fun z => TL.eqD z x := by rw [pys_map, List.any_map]; rfl
    rw [e]; exact h
theorem VO.notInD {ys : List D} (hu : X.A.units + 65 < cLine) (hx : shp x = true) (hy : shp (.lst ys) = true) (h : Q (.bl (!ys.any fun z => TL.eqD z x)) M) : VO X (compareOp .NotIn) x (.lst ys) M Q :=
  .op (op_notInD hu) fun H F v1 v2 R r1 r2 => by
    simp only [shp, Bool.and_eq_true] at hx hy
    refine ⟨_, pys ys, dp_mono R.sub (r1.dp hx.1), dp_mono R.sub (r2.dp hy.1), hx.2, hy.2, F, M, _, Stp.refl R, .bl _, ?_⟩
    have e : (pys ys).any (fun z => PyData.eqv z (py x)) = ys.any fun z => TL.eqD z x := by rw [pys_map, List.any_map]; rfl
    rw [e]; exact h
end
/-- flat data -/
def flatD : D → Bool
  | .non | .bl _ | .int _ | .str _ => true
  | _ => false
theorem flat_v {K : PySem.W.Frag} {F : Hp} {v : V} {d : D} (r : Rep K F v d) (h : flatD d = true) : flatV v = true := by
  cases r <;> simp_all [flatD, flatV]
theorem flat_vs {K : PySem.W.Frag} {F : Hp} {vs : List V} {ds : List D} (r : Reps K F vs ds) (h : ds.all flatD = true) : vs.all flatV = true := by
  induction vs generalizing ds with
  | nil => rfl
  | cons v vs ih =>
    cases r with
    | cons a r =>
      rw [List.all_cons, Bool.and_eq_true] at h ⊢
      exact ⟨flat_v a h.1, ih r h.2⟩
theorem flat_eq {K : PySem.W.Frag} {F : Hp} {v u : V} {d e : D} (r : Rep K F v d) (q : Rep K F u e) (h : flatD d = true) (h' : flatD e = true) : eqV v u = eqD d e := by
  cases r <;> cases q <;> simp_all [flatD, eqV, eqD, py, PyData.eqv]
theorem flat_in {K : PySem.W.Frag} {F : Hp} {u : V} {e : D} {vs : List V} {ds : List D} (r : Reps K F vs ds) (q : Rep K F u e) (h : ds.all flatD = true) (h' : flatD e = true) : inV u vs = ds.any fun z => eqD z e := by
  induction vs generalizing ds with
  | nil => cases r; rfl
  | cons v vs ih =>
    cases r with
    | cons a r =>
      rw [List.all_cons, Bool.and_eq_true] at h
      rw [List.any_cons, ← ih r h.2, ← flat_eq a q h.1 h']
      rfl
section
variable {X : Cx} {M : Mp} {Q : DQ} {x : D} {ys : List D}
theorem VO.inT (hx : flatD x = true) (hy : ys.all flatD = true) (h : Q (.bl (ys.any fun z => TL.eqD z x)) M) : VO X (compareOp .In) x (.tup ys) M Q :=
  .op op_in_seq fun H F v1 v2 R r1 r2 => by
    cases r2 with
    | tup s r => exact ⟨_, _, rfl, .inr (R.sub.sqT s), flat_v r1 hx, flat_vs r hy, F, M, _, Stp.refl R, .bl _, by rw [if_neg Bool.false_ne_true, flat_in r r1 hy hx]; exact h⟩
theorem VO.inL (hx : flatD x = true) (hy : ys.all flatD = true) (h : Q (.bl (ys.any fun z => TL.eqD z x)) M) : VO X (compareOp .In) x (.lst ys) M Q :=
  .op op_in_seq fun H F v1 v2 R r1 r2 => by
    cases r2 with
    | lst s r => exact ⟨_, _, rfl, .inl (.inl (R.sub.rd s)), flat_v r1 hx, flat_vs r hy, F, M, _, Stp.refl R, .bl _, by rw [if_neg Bool.false_ne_true, flat_in r r1 hy hx]; exact h⟩
/-- t + u -/
theorem VO.catT {xs : List D} (hl : xs.length + ys.length ≤ sizeLine) (h : Q (.tup (xs ++ ys)) M) : VO X (binaryOp .Add) (.tup xs) (.tup ys) M Q :=
  .op op_catA fun H F v1 v2 R r1 r2 => by
    cases r1 with
    | @tup _ va _ s r =>
      cases r2 with
      | @tup _ vb _ s' r' =>
        refine ⟨_, _, _, _, rfl, rfl, R.sub.sqT s, R.sub.sqT s', by rw [r.length, r'.length]; exact hl, fun e => ?_, fun e e' => ?_, fun e e' p hp => ?_⟩
        · subst e; cases r
          exact ⟨F, M, _, Stp.refl R, .tup s' r', h⟩
        · subst e'; cases r'
          exact ⟨F, M, _, Stp.refl R, .tup s r, by simpa using h⟩
        · have t := Stp.new (o := .tup (va ++ vb)) R hp
          exact ⟨_, M, _, t, .tup (.of upd_same) (t.reps (r.append r')), h⟩
/-- l + m -/
theorem VO.catL {xs : List D} (hl : xs.length + ys.length ≤ sizeLine) (h : Q (.lst (xs ++ ys)) M) : VO X (binaryOp .Add) (.lst xs) (.lst ys) M Q := by
  intro pins s σ H F v1 v2 u1 u2 I R r1 r2 p1 p2
  cases p1 with
  | @lst _ va _ q1 p1 =>
    cases p2 with
    | @lst _ vb _ q2 p2 =>
      cases r1
      cases r2
      obtain ⟨z1, i1, n1, w1, e1⟩ := (R.sub.rd q1).ok I.hok
      obtain ⟨z2, i2, n2, w2, e2⟩ := (R.sub.rd q2).ok I.hok
      have hz : i1.length + i2.length ≤ sizeLine := by rw [← w1.length, ← w2.length, p1.length, p2.length]; exact hl
      refine PySem.P.add_list e1 e2 ?_ (by simpa using hz)
      have ea : i1.toArray ++ i2.toArray = (i1 ++ i2).toArray := by simp
      rw [ea]
      have hf := I.fresh
      have t := Stp.new (o := .lst (va ++ vb)) R hf
      exact ⟨.ref _, _, _, M, _, I.lnew (t' := s.toks) (w1.append w2) (by rw [List.length_append, w1.length, w2.length]; exact hz), rfl, t, .lst (.of upd_same) (t.reps (p1.append p2)), h⟩
end
end TL
end
section
set_option maxRecDepth 100000
/-! TH: subscripts, slices, methods of built-in types, built-in functions, over tree values. -/
namespace TL
open PySem PySem.Spec PyProof.Rows L2

/-- a subscript by values -/
def VI (X : Cx) (x y : D) (M : Mp) (Q : DQ) : Prop :=
  ∀ (value slice : Expr) (pins : Pins) (s : Shared) (σ : SS) (H F : Hp) (v1 v2 : V) (u1 u2 : Value), Inv X pins σ H s → Good X.K H F M → RelV v1 u1 → RelV v2 u2 → Rep X.K F v1 x → Rep X.K F v2 y →
    subscripted slice false u1 u2 = operate [u1, u2] (getItem u1 u2) → wpAny (model X.prog X.w) X.A (subscriptTail value slice u1 u2) (TEnd X pins σ H F M Q) X.xe s
/-- a slice by values -/
def VS (X : Cx) (x : D) (lo hi : Option Int) (M : Mp) (Q : DQ) : Prop :=
  ∀ (pins : Pins) (s : Shared) (σ : SS) (H F : Hp) (v : V) (u vl vu : Value) (sl : Addr), Inv X pins σ H s → Good X.K H F M → RelV v u → Rep X.K F v x → s.heap.IsSliceOf sl vl vu .none → IsPart vl lo → IsPart vu hi →
    ∃ T id, typeLookup (.type T) "__getitem__" = pure (some (.builtin id)) ∧ s.TypeIs u T ∧ wpAny (model X.prog X.w) X.A (getItem u (.ref sl)) (TEnd X pins σ H F M Q) X.xe s
/-- a part of a slice -/
structure WO (X : Cx) (e : Option Expr) (ρ : En) (M : Mp) (Q : Option Int → Mp → Prop) : Prop where
  run : ∀ (pins : Pins) (s : Shared) (σ : SS) (H F : Hp), Inv X pins σ H s → Sim X.K H F M σ ρ →
    wpAny (model X.prog X.w) X.A (evalPart e X.env) (fun u s' => ∃ o H' F' M', Inv X pins σ H' s' ∧ IsPart u o ∧ Stp X.K H F M H' F' M' ∧ Q o M') X.xe s
section
variable {X : Cx} {M : Mp} {ρ : En} {Q : DQ} {a b e : Expr} {pos p2 : Pos} {lo hi : Option Expr}
theorem VI.ix {r : R2} {x y : D} (p : IxR X r) (h : ∀ H F v1 v2, Good X.K H F M → Rep X.K F v1 x → Rep X.K F v2 y → r v1 v2 H fun v H' => ∃ F' M' d, Stp X.K H F M H' F' M' ∧ Rep X.K F' v d ∧ Q d M') : VI X x y M Q :=
  fun va sl pins s σ H F v1 v2 u1 u2 I R r1 r2 p1 p2 hs => thn (p va sl pins s σ H v1 v2 u1 u2 _ I r1 r2 (h H F v1 v2 R p1 p2) hs) fun u s' ⟨v, H', I', r, F', M', d, st, rp, q⟩ => ⟨v, H', F', M', d, I', r, st, rp, q⟩
theorem WE.ix (h : WE X a ρ M fun x M1 => WE X b ρ M1 fun y M2 => VI X x y M2 Q) (hs : PlainIx b := by intro _ _; rfl) : WE X (.Subscript a b pos) ρ M Q :=
  ⟨fun pins s σ H F I S => Subscript_ (two I S h fun u1 u2 s2 v1 v2 x y H2 F2 M2 I2 t r1 r2 p1 p2 q => thn (q a b pins s2 σ H2 F2 v1 v2 u1 u2 I2 t.good r1 r2 p1 p2 (hs _ _)) fun _ _ e => e.back t)⟩
theorem VI.tup {xs : List D} {i : Int} {d : D} (hd : atI xs i = some d) (h : Q d M) : VI X (.tup xs) (.int i) M Q :=
  .ix ix_tup fun H F v1 v2 R r1 r2 => by
    cases r1 with
    | @tup _ vs _ s r =>
      cases r2
      have hd' : (ixN xs.length i).bind (fun j => xs[j]?) = some d := hd
      cases hj : ixN xs.length i with
      | none => rw [hj] at hd'; cases hd'
      | some j =>
        rw [hj] at hd'
        obtain ⟨v, hv, rv⟩ := r.get hd'
        refine ⟨_, vs, i, v, rfl, rfl, R.sub.sqT s, ?_, F, M, d, Stp.refl R, rv, h⟩
        show (ixN vs.length i).bind (fun j => vs[j]?) = some v
        rw [r.length, hj]; exact hv
theorem VI.lst {xs : List D} {i : Int} {d : D} (hd : atI xs i = some d) (h : Q d M) : VI X (.lst xs) (.int i) M Q :=
  .ix ix_list fun H F v1 v2 R r1 r2 => by
    cases r1 with
    | @lst _ vs _ s r =>
      cases r2
      have hd' : (ixN xs.length i).bind (fun j => xs[j]?) = some d := hd
      cases hj : ixN xs.length i with
      | none => rw [hj] at hd'; cases hd'
      | some j =>
        rw [hj] at hd'
        obtain ⟨v, hv, rv⟩ := r.get hd'
        refine ⟨_, vs, i, v, rfl, rfl, .inl (R.sub.rd s), ?_, F, M, d, Stp.refl R, rv, h⟩
        show (ixN vs.length i).bind (fun j => vs[j]?) = some v
        rw [r.length, hj]; exact hv
theorem VI.lstM {p : Addr} {xs : List D} {i : Int} {d : D} (hp : M p = some (.lst xs)) (hd : atI xs i = some d) (h : Q d M) : VI X (.ref p) (.int i) M Q :=
  .ix ix_list fun H F v1 v2 R r1 r2 => by
    cases r1
    cases r2
    obtain ⟨vs, hv, r⟩ := R.lst hp
    have hd' : (ixN xs.length i).bind (fun j => xs[j]?) = some d := hd
    cases hj : ixN xs.length i with
    | none => rw [hj] at hd'; cases hd'
    | some j =>
      rw [hj] at hd'
      obtain ⟨v, hv2, rv⟩ := r.get hd'
      refine ⟨_, vs, i, v, rfl, rfl, .inl (.of hv), ?_, F, M, d, Stp.refl R, rv, h⟩
      show (ixN vs.length i).bind (fun j => vs[j]?) = some v
      rw [r.length, hj]; exact hv2
theorem VI.str {x : List Nat} {i : Int} {c : Nat} (hl : x.length ≤ sizeLine) (hd : atI x i = some c) (h : Q (.str [c]) M) : VI X (.str x) (.int i) M Q :=
  .ix ix_str fun H F v1 v2 R r1 r2 => by
    cases r1
    cases r2
    exact ⟨_, i, c, rfl, rfl, by simpa [Str.length] using hl, by simpa using hd, F, M, _, Stp.refl R, .str [c], h⟩

/-! ### slices -/
theorem VS.sl {r : V → Option Int → Option Int → Hp → VK → Prop} {x : D} {l u : Option Int} (p : SlR X r) (h : ∀ H F v, Good X.K H F M → Rep X.K F v x → r v l u H fun v H' => ∃ F' M' d, Stp X.K H F M H' F' M' ∧ Rep X.K F' v d ∧ Q d M') : VS X x l u M Q :=
  fun pins s σ H F v w vl vu sl I R r1 p1 hs pl pu => by
    obtain ⟨T, id, h1, h2, h3⟩ := p pins s σ H v w vl vu l u sl _ I r1 hs pl pu (h H F v R p1)
    exact ⟨T, id, h1, h2, thn h3 fun u s' ⟨v, H', I', r, F', M', d, st, rp, q⟩ => ⟨v, H', F', M', d, I', r, st, rp, q⟩⟩
theorem WO.none {QO : Option Int → Mp → Prop} (h : QO none M) : WO X none ρ M QO := by
  refine ⟨fun pins s σ H F I S => ?_⟩
  rw [evalPart_none]
  exact wpAny_pure ⟨Option.none, H, F, M, I, .none, Stp.refl S.good, h⟩
theorem WO.some {QO : Option Int → Mp → Prop} (h : WE X e ρ M fun d M1 => ∃ i, d = .int i ∧ QO (some i) M1) : WO X (some e) ρ M QO := by
  refine ⟨fun pins s σ H F I S => ?_⟩
  rw [evalPart_some]
  refine thn (h.run pins s σ H F I S) fun u s1 ⟨v, H1, F1, M1, d, I1, r1, t1, p1, i, ed, q⟩ => ?_
  subst ed
  cases p1
  obtain ⟨t, rfl⟩ := r1
  exact ⟨Option.some i, H1, F1, M1, I1, .int i t, t1, q⟩
theorem WE.slice (h : WE X e ρ M fun x M1 => WO X lo ρ M1 fun l M2 => WO X hi ρ M2 fun u M3 => VS X x l u M3 Q) : WE X (.Subscript e (.Slice lo hi none p2) pos) ρ M Q := by
  refine ⟨fun pins s σ H F I S => ?_⟩
  refine Subscript_ (thn (h.run pins s σ H F I S) fun v s1 ⟨x, H1, F1, M1, d, I1, r1, t1, p1, q1⟩ => ?_)
  refine wpAny_Slice (thn (q1.run pins s1 σ H1 F1 I1 (S.step t1)) fun vl s2 ⟨l, H2, F2, M2, I2, pl, t2, q2⟩ => thn (q2.run pins s2 σ H2 F2 I2 (S.step (t1.trans t2))) fun vu s3 ⟨u, H3, F3, M3, I3, pu, t3, q3⟩ => ?_)
  rw [evalPart_none]
  refine wpAny_pure ?_
  have t := (t1.trans t2).trans t3
  have I4 : Inv X pins σ H3 { s3 with heap := s3.heap.push { cls := .type "slice", data := .fields #[vl, vu, .none] } } := I3.kept (t' := s3.toks) fun b ob q => Heap.get?_push_of_some _ q
  obtain ⟨T, id, hT, ht, hg⟩ := q3 pins { s3 with heap := s3.heap.push { cls := .type "slice", data := .fields #[vl, vu, .none] } } σ H3 F3 x v vl vu s3.heap.objs.size I4 t.good r1 ((t2.trans t3).rep p1) (Heap.IsSliceOf.new ..) pl pu
  show wpAny (model X.prog X.w) X.A (subscriptTail e (.Slice lo hi none p2) v (.ref s3.heap.objs.size)) (TEnd X pins σ H F M Q) X.xe { s3 with heap := s3.heap.push { cls := .type "slice", data := .fields #[vl, vu, .none] } }
  exact tail_any (ops := [.ref s3.heap.objs.size, v]) ht hT (thn hg fun _ _ e => e.back t) (by with_unfolding_all rfl)
/-- xs[lo:hi] -/
def cutD {α : Type} (xs : List α) (lo hi : Option Int) : List α := (xs.drop (HT.sIx xs.length 0 lo)).take (HT.sIx xs.length xs.length hi - HT.sIx xs.length 0 lo)
theorem Reps.cut {K : PySem.W.Frag} {F : Hp} {vs : List V} {ds : List D} (r : Reps K F vs ds) (lo hi : Option Int) : Reps K F (cutV vs lo hi) (cutD ds lo hi) := by
  unfold cutV cutD
  rw [r.length]
  exact (r.drop _).take _
theorem cutD_all {α : Type} {xs : List α} {lo hi : Option Int} (h : HT.sIx xs.length 0 lo = 0 ∧ HT.sIx xs.length xs.length hi = xs.length) : cutD xs lo hi = xs := by
  unfold cutD
  rw [h.1, h.2, List.drop_zero, Nat.sub_zero, List.take_length]
theorem VS.tup {xs : List D} {l u : Option Int} (h : Q (.tup (cutD xs l u)) M) : VS X (.tup xs) l u M Q :=
  .sl sl_tupA fun H F v R r1 => by
    cases r1 with
    | @tup _ vs _ s r =>
      refine ⟨_, vs, rfl, R.sub.sqT s, fun hw => ⟨F, M, _, Stp.refl R, .tup s r, ?_⟩, fun hw p hp => ?_⟩
      · rw [r.length] at hw
        rw [cutD_all hw] at h
        exact h
      · have t := Stp.new (o := .tup (cutV vs l u)) R hp
        exact ⟨_, M, _, t, .tup (.of upd_same) (t.reps (r.cut l u)), h⟩
theorem VS.lst {xs : List D} {l u : Option Int} (h : Q (.lst (cutD xs l u)) M) : VS X (.lst xs) l u M Q :=
  .sl sl_list fun H F v R r1 => by
    cases r1 with
    | @lst _ vs _ s r =>
      refine ⟨_, vs, rfl, .inl (R.sub.rd s), fun p hp => ?_⟩
      have t := Stp.new (o := .lst (cutV vs l u)) R hp
      exact ⟨_, M, _, t, .lst (.of upd_same) (t.reps (r.cut l u)), h⟩
theorem VS.str {x : List Nat} {l u : Option Int} (hl : x.length ≤ sizeLine) (h : Q (.str (cutD x l u)) M) : VS X (.str x) l u M Q :=
  .sl sl_str fun H F v R r1 => by
    cases r1
    refine ⟨_, rfl, by simpa [Str.length] using hl, F, M, _, Stp.refl R, ?_, h⟩
    have e : cutS ⟨x.toArray⟩ l u = ⟨(cutD x l u).toArray⟩ := by simp [cutS, cutD, Str.length]
    rw [e]
    exact .str _
end
end TL
end
section
set_option maxRecDepth 100000
/-! TI: methods of built-in types, built-in functions, over tree values. -/
namespace TL
open PySem PySem.Spec PyProof.Rows L2

/-- a method of a built-in type by values -/
def VM (X : Cx) (id : String) (x : D) (xs : List D) (M : Mp) (Q : DQ) : Prop :=
  ∀ (pins : Pins) (s : Shared) (σ : SS) (H F : Hp) (v : V) (u : Value) (vs : List V) (us : List Value), Inv X pins σ H s → Good X.K H F M → RelV v u → Rep X.K F v x → Vals vs us → Reps X.K F vs xs →
    wpAny (model X.prog X.w) X.A (call (.builtin id) (u :: us)) (TEnd X pins σ H F M Q) X.xe s
def TyIs (X : Cx) (M : Mp) (x : D) (T : String) : Prop :=
  ∀ (pins : Pins) (s : Shared) (σ : SS) (H F : Hp) (v : V) (u : Value), Inv X pins σ H s → Good X.K H F M → RelV v u → Rep X.K F v x → s.TypeIs u T ∧ ∀ a, u = .ref a → ∃ ob, s.heap.get? a = some ob ∧ ob.dict = none
theorem TyIs.of {X : Cx} {M : Mp} {x : D} {T : String} (h : ∀ H F v, Good X.K H F M → Rep X.K F v x → tyV X.K T v H) : TyIs X M x T :=
  fun pins s σ H F v u I R r1 p1 => tyV_is I r1 (h H F v R p1)
theorem TyIs.str {X : Cx} {M : Mp} {x : List Nat} : TyIs X M (.str x) "str" := .of fun H F v R p => by cases p; exact rfl
theorem TyIs.lst {X : Cx} {M : Mp} {xs : List D} : TyIs X M (.lst xs) "list" := .of fun H F v R p => by
  cases p with
  | lst s r => exact .inl ⟨rfl, _, .inl (R.sub.rd s)⟩
theorem TyIs.lstM {X : Cx} {M : Mp} {a : Addr} {xs : List D} (h : M a = some (.lst xs)) : TyIs X M (.ref a) "list" := .of fun H F v R p => by
  cases p
  obtain ⟨vs, hv, _⟩ := R.lst h
  exact .inl ⟨rfl, _, .inl (.of hv)⟩
theorem TyIs.dicM {X : Cx} {M : Mp} {a : Addr} {xs : List (Key × D)} (h : M a = some (.dic xs)) : TyIs X M (.ref a) "dict" := .of fun H F v R p => by
  cases p
  obtain ⟨vs, hv, _⟩ := R.dic h
  exact .inr (.inr (.inl ⟨rfl, .inl ⟨_, hv⟩⟩))
section
variable {X : Cx} {M : Mp} {ρ : En} {Q : DQ} {o e : Expr} {es : List Expr} {name x : Str} {apos cpos p pos : Pos} {T id : String}
theorem VM.mt {r : V → List V → Hp → VK → Prop} {x : D} {xs : List D} (m : MtR X id r) (h : ∀ H F v vs, Good X.K H F M → Rep X.K F v x → Reps X.K F vs xs → r v vs H fun v H' => ∃ F' M' d, Stp X.K H F M H' F' M' ∧ Rep X.K F' v d ∧ Q d M') : VM X id x xs M Q :=
  fun pins s σ H F v u vs us I R r1 p1 r2 p2 => thn (m pins s σ H v vs u us _ I r1 r2 (h H F v vs R p1 p2)) fun u s' ⟨v, H', I', r, F', M', d, st, rp, q⟩ => ⟨v, H', F', M', d, I', r, st, rp, q⟩
theorem WE.bm0 (pa : PlainAttrs T) (slot : Slot T name id) (hty : typeOf (.builtin id) = pure (.type "method_descriptor")) (h : WE X o ρ M fun x M1 => TyIs X M1 x T ∧ VM X id x [] M1 Q)
    (hbase : attributeBase o name X.env (eval o X.env) = eval o X.env := by rfl) (hline : (apos.endLine == cpos.line) = true := by rfl) : WE X (.Call (.Attribute o name apos) [] [] cpos) ρ M Q := by
  refine ⟨fun pins s σ H F I S => ?_⟩
  refine wpAny_Call_method0_late hbase hline (thn (h.run pins s σ H F I S) fun v s1 ⟨x, H1, F1, M1, d, I1, r1, t1, p1, ty, q1⟩ => ?_)
  obtain ⟨h1, h2⟩ := ty pins s1 σ H1 F1 x v I1 t1.good r1 p1
  exact ⟨T, id, pa, slot, hty, h1, h2, Calls.callWith_builtin rfl (PySem.evalArgs_none (thn (q1 pins s1 σ H1 F1 x v [] [] I1 t1.good r1 p1 .nil .nil) fun _ _ e => e.back t1))⟩
theorem WE.bm (pa : PlainAttrs T) (slot : Slot T name id) (hty : typeOf (.builtin id) = pure (.type "method_descriptor"))
    (h : WE X o ρ M fun x M1 => TyIs X M1 x T ∧ WA X (e :: es) ρ M1 fun xs M2 => VM X id x xs M2 Q)
    (hbase : attributeBase o name X.env (eval o X.env) = eval o X.env := by rfl)
    (hfew : ((backTo cpos (starEach (e :: es) X.env)).all (fun x => !x.1) && (backToKw cpos (keywordEach [] X.env)).all (fun x => x.1.isSome)
      && decide ((e :: es).length + ([] : List Keyword).length + (if ([] : List Keyword).isEmpty then 0 else 1) < 30)) = true := by rfl)
    (hline : (apos.endLine == cpos.line) = true := by rfl) (hs : starEach (e :: es) X.env = (false, eval e X.env) :: starEach es X.env := by rfl) (hplain : (backTo cpos (starEach es X.env)).any (·.1) = false := by rfl) :
    WE X (.Call (.Attribute o name apos) (e :: es) [] cpos) ρ M Q := by
  refine ⟨fun pins s σ H F I S => ?_⟩
  refine wpAny_Call_method_late hbase hfew hline rfl (thn (h.run pins s σ H F I S) fun v s1 ⟨x, H1, F1, M1, d, I1, r1, t1, p1, ty, q1⟩ => ?_)
  obtain ⟨h1, h2⟩ := ty pins s1 σ H1 F1 x v I1 t1.good r1 p1
  refine ⟨T, id, pa, slot, hty, h1, h2, ?_⟩
  have hA := q1.run cpos pins s1 σ H1 F1 I1 (S.step t1)
  rw [hs] at hA ⊢
  refine Calls.callWith_builtin (by show (false || (backTo cpos (starEach es X.env)).any (·.1)) = false; rw [hplain] <;> rfl) (Calls.evalArgs_plain ?_)
  exact thn hA fun us s2 ⟨vs, H2, F2, M2, ds, I2, r2, t2, p2, q2⟩ => thn (q2 pins s2 σ H2 F2 x v vs us I2 t2.good r1 (t2.rep p1) r2 p2) fun _ _ e => e.back (t1.trans t2)
/-- f(e, ..), f a built-in function; a built-in type -/
theorem WE.callB (hm : X.mg x = none) (hv : bootBuiltins x = some (.builtin id)) (h : WA X (e :: es) ρ M fun xs M1 => VC X (.builtin id) xs M1 Q) (hg : Gl X x := by rfl) (hn : x ≠ "__name__" := by decide) (hdb : (x == ("__debug__" : Str)) = false := by decide)
    (he : starEach (e :: es) X.env = (false, eval e X.env) :: starEach es X.env := by rfl) (hpl : (backTo pos (starEach es X.env)).any (·.1) = false := by rfl) : WE X (.Call (.Name x p) (e :: es) [] pos) ρ M Q :=
  ⟨fun pins s σ H F I S => wpAny_Call_Name_kw (ld_blt I hg hm hv (PyProof.Rows.callWith_builtin1 (thn (h.run pos pins s σ H F I S) fun us s1 ⟨vs, H1, F1, M1, ds, I1, r1, t1, p1, q1⟩ => thn (q1 pins s1 σ H1 F1 vs us I1 t1.good r1 p1) fun _ _ e => e.back t1) he hpl) hn hdb)⟩
theorem WE.callTy (hm : X.mg x = none) (hv : bootBuiltins x = some (.type T)) (h : WA X (e :: es) ρ M fun xs M1 => VC X (.type T) xs M1 Q) (hg : Gl X x := by rfl) (hn : x ≠ "__name__" := by decide) (hdb : (x == ("__debug__" : Str)) = false := by decide)
    (he : starEach (e :: es) X.env = (false, eval e X.env) :: starEach es X.env := by rfl) (hpl : (backTo pos (starEach es X.env)).any (·.1) = false := by rfl) : WE X (.Call (.Name x p) (e :: es) [] pos) ρ M Q :=
  ⟨fun pins s σ H F I S => wpAny_Call_Name_kw (ld_blt I hg hm hv (PyProof.Rows.callWith_type1 (thn (h.run pos pins s σ H F I S) fun us s1 ⟨vs, H1, F1, M1, ds, I1, r1, t1, p1, q1⟩ => thn (q1 pins s1 σ H1 F1 vs us I1 t1.good r1 p1) fun _ _ e => e.back t1) he hpl) hn hdb)⟩

/-! ### methods -/
theorem VM.append {a : Addr} {xs : List D} {d : D} (hm : M a = some (.lst xs)) (hl : xs.length < sizeLine) (h : Q .non (mset M a (.lst (xs ++ [d])))) : VM X "list.append" (.ref a) [d] M Q :=
  .mt mt_append fun H F v vs R p1 p2 => by
    cases p1
    cases p2 with
    | cons q p2 =>
      cases p2
      obtain ⟨ws, hw, r⟩ := R.lst hm
      refine ⟨a, ws, _, rfl, rfl, hw, by rw [r.length]; exact hl, F, _, _, Stp.write R hm (.lst (r.append (.cons q .nil))), .non, h⟩
theorem VM.pop {a : Addr} {xs : List D} {d : D} (hm : M a = some (.lst (xs ++ [d]))) (h : Q d (mset M a (.lst xs))) : VM X "list.pop" (.ref a) [] M Q :=
  .mt mt_pop fun H F v vs R p1 p2 => by
    cases p1
    cases p2
    obtain ⟨ws, hw, r⟩ := R.lst hm
    have hl := r.length
    rw [List.length_append, List.length_singleton] at hl
    obtain ⟨v, hv, rv⟩ := r.get (i := ws.length - 1) (d := d) (by rw [hl]; simp)
    refine ⟨a, ws, v, rfl, rfl, hw, hv, F, _, _, Stp.write R hm (.lst (ds := xs) ?_), rv, h⟩
    have := r.take xs.length
    rw [List.take_append_of_le_length (Nat.le_refl _), List.take_length] at this
    rw [List.dropLast_eq_take, hl, Nat.add_sub_cancel]
    exact this
theorem reps_strs {K : PySem.W.Frag} {F : Hp} {vs : List V} : ∀ {ys : List (List Nat)}, Reps K F vs (ys.map D.str) → vs = (ys.map fun y => (⟨y.toArray⟩ : Str)).map V.str := by
  intro ys
  induction ys generalizing vs with
  | nil => intro r; cases r; rfl
  | cons y ys ih =>
    intro r
    cases r with
    | cons a r =>
      cases a
      rw [ih r]
      rfl
theorem reps_ints {K : PySem.W.Frag} {F : Hp} {vs : List V} : ∀ {ns : List Int}, Reps K F vs (ns.map D.int) → vs = ns.map V.int := by
  intro ys
  induction ys generalizing vs with
  | nil => intro r; cases r; rfl
  | cons y ys ih =>
    intro r
    cases r with
    | cons a r =>
      cases a
      rw [ih r]
      rfl
theorem reps_bls {K : PySem.W.Frag} {F : Hp} {vs : List V} : ∀ {ns : List Bool}, Reps K F vs (ns.map D.bl) → vs = ns.map V.bl := by
  intro ys
  induction ys generalizing vs with
  | nil => intro r; cases r; rfl
  | cons y ys ih =>
    intro r
    cases r with
    | cons a r =>
      cases a
      rw [ih r]
      rfl
theorem rep_ints {K : PySem.W.Frag} {F : Hp} : ∀ ns : List Int, Reps K F (ns.map V.int) (ns.map D.int)
  | [] => .nil
  | n :: ns => .cons (.int n) (rep_ints ns)
theorem rep_strs {K : PySem.W.Frag} {F : Hp} : ∀ ns : List (List Nat), Reps K F (ns.map fun y => V.str ⟨y.toArray⟩) (ns.map D.str)
  | [] => .nil
  | n :: ns => .cons (.str n) (rep_strs ns)
theorem join_nil : ∀ ys : List (List Nat), Str.join ⟨#[]⟩ (ys.map fun y => (⟨y.toArray⟩ : Str)) = ⟨ys.flatten.toArray⟩
  | [] => rfl
  | [y] => by simp [Str.join]
  | y :: z :: r => by
    have ih := join_nil (z :: r)
    show (⟨y.toArray⟩ : Str) ++ ⟨#[]⟩ ++ Str.join ⟨#[]⟩ ((z :: r).map fun y => (⟨y.toArray⟩ : Str)) = _
    rw [ih]
    show Str.mk ((y.toArray ++ #[]) ++ ((z :: r).flatten).toArray) = Str.mk (y ++ (z :: r).flatten).toArray
    simp
/-- ''.join -/
theorem join_end {F : Hp} {ys : List (List Nat)} : Rep X.K F (.str (Txt.join ⟨(lit "").toArray⟩ (ys.map fun y => (⟨y.toArray⟩ : Str)))) (.str ys.flatten) := by
  have e0 : (⟨(lit "").toArray⟩ : Str) = ⟨#[]⟩ := by decide
  have ej : Txt.join ⟨(lit "").toArray⟩ (ys.map fun y => (⟨y.toArray⟩ : Str)) = ⟨ys.flatten.toArray⟩ := by
    rw [e0]
    rw [join_eq]
    exact join_nil ys
  rw [ej]
  exact .str _
theorem join_len {ys : List (List Nat)} (hl : (ys.map List.length).sum ≤ 16777216) :
    ((ys.map fun y => (⟨y.toArray⟩ : Str)).map (·.length)).sum + (ys.map fun y => (⟨y.toArray⟩ : Str)).length * (⟨(lit "").toArray⟩ : Str).length ≤ 16777216 := by
  have e0 : (⟨(lit "").toArray⟩ : Str) = ⟨#[]⟩ := by decide
  rw [e0, List.map_map]
  show (ys.map List.length).sum + _ * 0 ≤ 16777216
  rw [Nat.mul_zero]
  exact hl
theorem VM.joinL {ys : List (List Nat)} (hl : (ys.map List.length).sum ≤ 16777216) (h : Q (.str ys.flatten) M) : VM X "str.join" (.str (lit "")) [.lst (ys.map D.str)] M Q :=
  .mt mt_join fun H F v vs R p1 p2 => by
    cases p1
    cases p2 with
    | cons q p2 =>
      cases p2
      cases q with
      | lst s r => exact ⟨_, _, _, rfl, rfl, .inl (.inl (reps_strs r ▸ R.sub.rd s)), join_len hl, F, M, _, Stp.refl R, join_end, h⟩
theorem VM.joinT {ys : List (List Nat)} (hl : (ys.map List.length).sum ≤ 16777216) (h : Q (.str ys.flatten) M) : VM X "str.join" (.str (lit "")) [.tup (ys.map D.str)] M Q :=
  .mt mt_join fun H F v vs R p1 p2 => by
    cases p1
    cases p2 with
    | cons q p2 =>
      cases p2
      cases q with
      | tup s r => exact ⟨_, _, _, rfl, rfl, .inr (reps_strs r ▸ R.sub.sqT s), join_len hl, F, M, _, Stp.refl R, join_end, h⟩
/-- l.index(y): the first equal one -/
theorem VM.index {y : D} {xs : List D} (hu : X.A.units + 65 < cLine) (hx : shp (.lst xs) = true) (hy : shp y = true) {j : Nat} (hj : xs.findIdx? (fun z => eqD z y) = some j) (h : Q (.int (j : Nat)) M) : VM X "list.index" (.lst xs) [y] M Q :=
  .mt (mt_indexD hu) fun H F v vs R p1 p2 => by
    cases p2 with
    | cons q p2 =>
      cases p2
      simp only [shp, Bool.and_eq_true] at hx hy
      have hd := dp_mono R.sub (p1.dp hx.1)
      cases p1 with
      | lst s r =>
        obtain ⟨hj1, hj2, hj3⟩ := List.findIdx?_eq_some_iff_getElem.mp hj
        refine ⟨_, _, py y, pys xs, j, py xs[j], rfl, rfl, hd, dp_mono R.sub (q.dp hy.1), hx.2, hy.2, by rw [pys_map]; simp [hj1], hj2, fun m z' hm hz => ?_, F, M, _, Stp.refl R, .int _, h⟩
        rw [pys_map, List.getElem?_map, List.getElem?_eq_getElem (by omega)] at hz
        cases hz
        have := hj3 m hm
        simpa [eqD] using this

/-! ### built-in functions -/
def lenD : D → Option Nat
  | .str x => if x.length ≤ sizeLine then some x.length else none
  | .lst xs => some xs.length
  | .tup xs => some xs.length
  | _ => none
theorem VC.len {d : D} {n : Nat} (hn : lenD d = some n) (h : Q (.int n) M) : VC X (.builtin "len") [d] M Q :=
  .call call_len fun H F vs R p => by
    cases p with
    | cons q p =>
      cases p
      refine ⟨_, n, rfl, ?_, F, M, _, Stp.refl R, .int _, h⟩
      cases q with
      | str x =>
        have hn' : (if x.length ≤ sizeLine then some x.length else none) = some n := hn
        by_cases hz : x.length ≤ sizeLine
        · rw [if_pos hz] at hn'
          cases hn'
          exact ⟨by simpa [Str.length] using hz, by simp [Str.length]⟩
        · rw [if_neg hz] at hn'
          cases hn'
      | lst s r =>
        cases hn
        exact .inl ⟨_, .inl (R.sub.rd s), r.length.symm⟩
      | tup s r =>
        cases hn
        exact .inr ⟨_, R.sub.sqT s, r.length.symm⟩
      | _ => cases hn
theorem VC.lenM {a : Addr} {xs : List D} (hm : M a = some (.lst xs)) (h : Q (.int xs.length) M) : VC X (.builtin "len") [.ref a] M Q :=
  .call call_len fun H F vs R p => by
    cases p with
    | cons q p =>
      cases p
      cases q
      obtain ⟨ws, hw, r⟩ := R.lst hm
      exact ⟨_, _, rfl, .inl ⟨_, .inl (.of hw), r.length.symm⟩, F, M, _, Stp.refl R, .int _, h⟩
theorem VC.max2 (hc : X.calm = true) {i j : Int} (h : Q (.int (max i j)) M) : VC X (.builtin "max") [.int i, .int j] M Q :=
  .call (call_max2 hc) fun H F vs R p => by
    cases p with
    | cons q p =>
      cases p with
      | cons q2 p =>
        cases p
        cases q
        cases q2
        refine ⟨i, j, rfl, F, M, _, Stp.refl R, .int _, ?_⟩
        have e : (if j > i then j else i) = max i j := by
          split <;> omega
        rw [e]; exact h
theorem VC.min2 (hc : X.calm = true) {i j : Int} (h : Q (.int (min i j)) M) : VC X (.builtin "min") [.int i, .int j] M Q :=
  .call (call_min2 hc) fun H F vs R p => by
    cases p with
    | cons q p =>
      cases p with
      | cons q2 p =>
        cases p
        cases q
        cases q2
        refine ⟨i, j, rfl, F, M, _, Stp.refl R, .int _, ?_⟩
        have e : (if j < i then j else i) = min i j := by
          split <;> omega
        rw [e]; exact h
theorem VC.int1 {i : Int} (h : Q (.int i) M) : VC X (.type "int") [.int i] M Q :=
  .call call_int1 fun H F vs R p => by
    cases p with
    | cons q p =>
      cases p
      cases q
      exact .inl ⟨i, rfl, F, M, _, Stp.refl R, .int _, h⟩
theorem VC.tupleL {xs : List D} (h : Q (.tup xs) M) : VC X (.type "tuple") [.lst xs] M Q :=
  .call call_tuple_of fun H F vs R p => by
    cases p with
    | cons q p =>
      cases p
      cases q with
      | @lst _ ws _ s r =>
        refine ⟨_, ws, rfl, .inl ⟨.inl (R.sub.rd s), fun l hl => ?_⟩⟩
        have t := Stp.new (o := .tup ws) R hl
        exact ⟨_, M, _, t, .tup (.of upd_same) (t.reps r), h⟩
theorem VC.tupleM {a : Addr} {xs : List D} (hm : M a = some (.lst xs)) (h : Q (.tup xs) M) : VC X (.type "tuple") [.ref a] M Q :=
  .call call_tuple_of fun H F vs R p => by
    cases p with
    | cons q p =>
      cases p
      cases q
      obtain ⟨ws, hw, r⟩ := R.lst hm
      refine ⟨_, ws, rfl, .inl ⟨.inl (.of hw), fun l hl => ?_⟩⟩
      have t := Stp.new (o := .tup ws) R hl
      exact ⟨_, M, _, t, .tup (.of upd_same) (t.reps r), h⟩
theorem VC.listT {xs : List D} (h : Q (.lst xs) M) : VC X (.type "list") [.tup xs] M Q :=
  .call call_list_of fun H F vs R p => by
    cases p with
    | cons q p =>
      cases p
      cases q with
      | @tup _ ws _ s r =>
        refine ⟨_, ws, rfl, .inr (R.sub.sqT s), fun l hl => ?_⟩
        have t := Stp.new (o := .lst ws) R hl
        exact ⟨_, M, _, t, .lst (.of upd_same) (t.reps r), h⟩
theorem VC.listL {xs : List D} (h : Q (.lst xs) M) : VC X (.type "list") [.lst xs] M Q :=
  .call call_list_of fun H F vs R p => by
    cases p with
    | cons q p =>
      cases p
      cases q with
      | @lst _ ws _ s r =>
        refine ⟨_, ws, rfl, .inl (.inl (R.sub.rd s)), fun l hl => ?_⟩
        have t := Stp.new (o := .lst ws) R hl
        exact ⟨_, M, _, t, .lst (.of upd_same) (t.reps r), h⟩
/-- .. to be written -/
theorem VC.listLM {xs : List D} (h : ∀ p, M p = none → Q (.ref p) (mset M p (.lst xs))) : VC X (.type "list") [.lst xs] M Q :=
  .call call_list_of fun H F vs R p => by
    cases p with
    | cons q p =>
      cases p
      cases q with
      | @lst _ ws _ s r =>
        refine ⟨_, ws, rfl, .inl (.inl (R.sub.rd s)), fun l hl => ?_⟩
        exact ⟨_, _, _, Stp.newM R hl (.lst r), .ref _, h l (R.free hl)⟩
theorem VC.sum (hc : X.calm = true) {ns : List Int} (h : Q (.int ns.sum) M) : VC X (.builtin "sum") [.lst (ns.map D.int)] M Q :=
  .call (cr_sum hc) fun H F vs R p => by
    cases p with
    | cons q p =>
      cases p
      cases q with
      | lst s r =>
        obtain rfl := reps_ints r
        exact ⟨_, ns, rfl, .inl (R.sub.rd s), F, M, _, Stp.refl R, .int _, h⟩
theorem VC.all (hc : X.calm = true) {bs : List Bool} (h : Q (.bl (bs.all fun b => b)) M) : VC X (.builtin "all") [.lst (bs.map D.bl)] M Q :=
  .call (cr_all hc) fun H F vs R p => by
    cases p with
    | cons q p =>
      cases p
      cases q with
      | lst s r =>
        obtain rfl := reps_bls r
        exact ⟨_, bs, rfl, .inl (R.sub.rd s), F, M, _, Stp.refl R, .bl _, h⟩
/-- sorted(l) of ints -/
theorem sorted_one : ∀ {xs ys : List Int}, xs.Perm ys → xs.Pairwise (· ≤ ·) → ys.Pairwise (· ≤ ·) → xs = ys
  | [], ys, p, _, _ => by
    have := p.length_eq
    cases ys with
    | nil => rfl
    | cons y ys => simp at this
  | x :: xs, ys, p, hx, hy => by
    cases ys with
    | nil => have := p.length_eq; simp at this
    | cons y ys =>
      obtain ⟨h1, h2⟩ := List.pairwise_cons.mp hx
      obtain ⟨k1, k2⟩ := List.pairwise_cons.mp hy
      have e : x = y := by
        have a : x ∈ y :: ys := p.subset (List.mem_cons_self ..)
        have b : y ∈ x :: xs := p.symm.subset (List.mem_cons_self ..)
        rcases List.mem_cons.mp a with a | a
        · exact a
        · rcases List.mem_cons.mp b with b | b
          · exact b.symm
          · have c := h1 y b
            have d := k1 x a
            omega
      subst e
      rw [sorted_one (List.Perm.cons_inv p) h2 k2]
def sortI (ns : List Int) : List Int := ns.mergeSort fun a b => decide (a ≤ b)
theorem sortI_perm (ns : List Int) : (sortI ns).Perm ns := List.mergeSort_perm ns _
theorem sortI_le (ns : List Int) : (sortI ns).Pairwise (· ≤ ·) := by
  have := List.pairwise_mergeSort (le := fun (a b : Int) => decide (a ≤ b)) (fun a b c h k => by simp at *; omega) (fun a b => by simp; omega) ns
  exact this.imp fun h => by simpa using h
theorem VC.sorted {ns : List Int} (h : Q (.lst ((sortI ns).map D.int)) M) : VC X (.builtin "sorted") [.lst (ns.map D.int)] M Q :=
  .call cr_sortedI fun H F vs R p => by
    cases p with
    | cons q p =>
      cases p
      cases q with
      | lst s r =>
        obtain rfl := reps_ints r
        refine ⟨_, ns, rfl, .inl (R.sub.rd s), fun ns' p hp hs hf => ?_⟩
        obtain rfl := sorted_one (hp.trans (sortI_perm ns).symm) hs (sortI_le ns)
        have t := Stp.new (o := .lst ((sortI ns).map V.int)) R hf
        exact ⟨_, M, _, t, .lst (.of upd_same) (rep_ints _), h⟩
/-! ### isinstance -/
/-- a value's type -/
def tyD : D → Option String
  | .non => some "NoneType"
  | .bl _ => some "bool"
  | .int _ => some "int"
  | .str _ => some "str"
  | .tup _ => some "tuple"
  | .lst _ => some "list"
  | .dic _ => some "dict"
  | _ => none
theorem VC.isi {d : D} {t c : String} {b : Bool} (ht : tyD d = some t) (hb : kitB t c = some b) (h : Q (.bl b) M) : VC X (.builtin "isinstance") [d, .ty c] M Q :=
  .call call_isi fun H F vs R p => by
    cases p with
    | cons q p =>
      cases p with
      | cons q2 p =>
        cases p
        cases q2
        refine ⟨_, _, .type t, .type c, b, rfl, .ty c, ?_, kit_ty hb, F, M, _, Stp.refl R, .bl _, h⟩
        cases q with
        | non => cases ht; exact .base .non
        | bl k => cases ht; exact .base (.bl k)
        | int k => cases ht; exact .base (.int k)
        | str k => cases ht; exact .base (.str _)
        | tup s r =>
          cases ht
          rcases R.sub.sqT s with (s | ⟨o, s⟩) | ⟨o, its, n, s, hc, _⟩
          · exact .base (.tup s)
          · exact .fTuple s
          · exact .kTuple s hc
        | lst s r =>
          cases ht
          rcases R.sub.rd s with s | ⟨o, s⟩
          · exact .base (.lst s)
          · exact .base (.frz s)
        | dic s r => cases ht; exact .base (.dK (R.sub _ _ s))
        | _ => cases ht
end
end TL
end
section
set_option maxRecDepth 100000
/-! TJ: calls of defs, over tree values. -/
namespace TL
open PySem PySem.Spec PyProof.Rows L2

/-- room for k calls; no repr is under way -/
structure GRoom (k : Nat) (A : Around) : Prop where
  room : Room k A
  grd : A.guards = some []
theorem GRoom.mono {j k : Nat} {A : Around} (r : GRoom k A) (h : j ≤ k) : GRoom j A := ⟨r.room.mono h, r.grd⟩
theorem GRoom.deeper {k : Nat} {A : Around} (r : GRoom (k + 1) A) (env : Env) : GRoom k (A.deeper env) := ⟨r.room.deeper env, r.grd⟩
theorem GRoom.in1 {k : Nat} {A : Around} (r : GRoom (k + 1) A) : GRoom k A.in1 := ⟨r.room.in1, r.grd⟩
theorem make_guards {A : Around} {C : Addr} {us : List Value} {kw : List (Str × Value)} : (A.under (.builtin "type.__call__" ⟨.ref C :: us, kw⟩)).guards = A.guards := by
  first
    | rfl
    | simp [Around.under, Code.guards, Code.isGuard, guardIds, pushGuards]
theorem GRoom.make {k : Nat} {A : Around} (r : GRoom (k + 1) A) (C : Addr) (us : List Value) (kw : List (Str × Value)) : GRoom k (A.under (.builtin "type.__call__" ⟨.ref C :: us, kw⟩)) := ⟨r.room.make C us kw, make_guards.trans r.grd⟩

/-- an exception as data: its class, its fields, the heap -/
abbrev XDQ := Addr → List (Str × D) → Mp → Prop
abbrev noX : XDQ := fun _ _ _ => False
def XEnd (K : PySem.W.Frag) (H F : Hp) (M : Mp) (XQ : XDQ) : XK := fun cls d H' => ∃ C dx F' M' vfs fs, cls = .ref C ∧ d = some dx ∧ F' dx = some (.xd vfs) ∧ Stp K H F M H' F' M' ∧ RepF K F' vfs fs ∧ XQ C fs M'
def QEnd (K : PySem.W.Frag) (H F : Hp) (M : Mp) (Q : DQ) : VK := fun v H' => ∃ F' M' d, Stp K H F M H' F' M' ∧ Rep K F' v d ∧ Q d M'

/-- the call of the def at f with the data ds ends as wished -/
structure TFn (P : Program) (w : World) (K : PySem.W.Frag) (mg : Str → Option Value) (base : Heap) (k : Nat) (f : Addr) (fd : FuncData) (ps : List Str) (ds : List D) (M : Mp) (Q : DQ) (XQ : XDQ := noX) : Prop where
  len : ds.length = ps.length
  run : ∀ (A : Around) (outer : List Env) (s : Shared) (H F : Hp) (args : Args) (us : List Value) (vs : List V), GRoom k A → Env0 P w K mg base A outer s H → BindsTo s fd args (ps.zip us) → Vals vs us → Good K H F M → Reps K F vs ds →
    codeAny (model P w) A (.call (.ref f) args) (CR (L2.CX P w) outer P w H s (QEnd K H F M Q) (XEnd K H F M XQ)) s
section
variable {P : Program} {w : World} {K : PySem.W.Frag} {mg : Str → Option Value} {base : Heap} {k : Nat} {f : Addr} {fd : FuncData} {ps : List Str} {ds : List D} {M : Mp} {Q : DQ} {XQ : XDQ}
theorem TFn.mono {j : Nat} (T : TFn P w K mg base j f fd ps ds M Q XQ) (h : j ≤ k) : TFn P w K mg base k f fd ps ds M Q XQ := ⟨T.len, fun A outer s H F args us vs r => T.run A outer s H F args us vs (r.mono h)⟩
theorem CE.imp {outer : List Env} {H : Hp} {s : Shared} {Q Q' : VK} {u : Value} {s' : Shared} (h : CE outer P w H s Q u s') (q : ∀ v H', Q v H' → Q' v H') : CE outer P w H s Q' u s' :=
  let ⟨v, H', a, b, c, d, e, g⟩ := h; ⟨v, H', a, b, c, d, e, q _ _ g⟩
theorem TFn.imp {Q' : DQ} (T : TFn P w K mg base k f fd ps ds M Q XQ) (h : ∀ d M', Q d M' → Q' d M') : TFn P w K mg base k f fd ps ds M Q' XQ :=
  ⟨T.len, fun A outer s H F args us vs r e b v g rp => codeAny_mono (T.run A outer s H F args us vs r e b v g rp) fun r s' hq => by
    cases r with
    | error e => exact hq
    | ok fl =>
      cases fl with
      | ret u => exact CE.imp hq fun v H' ⟨F', M', d, t, rp, q⟩ => ⟨F', M', d, t, rp, h _ _ q⟩
      | _ => exact hq⟩

/-- the slots at the entry -/
def startD (N : List Str) (ds : List D) : En := ds.map some ++ List.replicate (N.length - ds.length) none
theorem start_sim {H F : Hp} {N : List Str} {vs : List V} (g : Good K H F M) (r : Reps K F vs ds) : Sim K H F M (L2.start N vs) (startD N ds) := by
  have hl := r.length
  refine ⟨g, fun i d h => ?_, by simp [L2.start, startD, hl]⟩
  unfold startD at h
  by_cases hi : i < ds.length
  · rw [List.getElem?_append_left (by simpa using hi), List.getElem?_map] at h
    cases e : ds[i]? with
    | none => rw [e] at h; cases h
    | some d' =>
      rw [e] at h
      cases h
      obtain ⟨v, hv, rv⟩ := r.get e
      refine ⟨v, ?_, rv⟩
      unfold L2.start
      rw [List.getElem?_append_left (by simpa [hl] using hi), List.getElem?_map, hv]
      rfl
  · rw [List.getElem?_append_right (by simpa using hi), List.getElem?_replicate] at h
    split at h <;> cases h

variable {x qual : Str} {params : Arguments} {body : List Stmt} {scope : Scope} {N : List Str}
/-- THE RULE: a def by its body -/
theorem TFn.of (Fd : FunD K x qual params body scope [] [] f fd) (Sc : FnScope N ps scope) (hl : ds.length = ps.length)
    (hb : ∀ (cdv : Value) (A : Around) (outer : List Env) (s : Shared) (H F : Hp), GRoom k (A.deeper (envOfC qual scope s.heap.objs.size f cdv)) →
      WSs (cxOf (L2.CX P w) P w K mg base N qual scope f cdv A outer s H (XEnd K H F M XQ)) body (startD N ds) M { nx := fun _ M' => Q .non M', rt := Q }) :
    TFn P w K mg base (k + 1) f fd ps ds M Q XQ := by
  obtain ⟨oc, od, dV, kV, doc, pm, an, cdv, ct, osl, rfl, lk, hcd, _, _⟩ := Fd.ex
  refine ⟨hl, fun A outer s H F args us vs hr e0 hbd r g rp => ?_⟩
  have KX : K.In s.heap := e0.mod.kin.keeps fun b o e => (e0.bs b o e).1
  have lim : s.heap.NoLimit := e0.mod.nolimit.keeps fun b o e => (e0.bs b o e).1
  have hk : ∀ y ∈ ps.zip us, scope.names.lookup y.1 = some .local ∨ (scope.names.lookup y.1 = some .cell ∧ ((cellsFrom (s.heap.objs.size + 1) scope.names []).lookup y.1).isSome = true) := by
    rintro ⟨n, v⟩ hy
    rcases Sc.par n (List.of_mem_zip hy).1 with q | q
    · exact .inl q
    · exact .inr ⟨q, PySem.W.cellsFrom_some _ _ _ (.inl q)⟩
  refine codeAny_call_function hr.room.depth (KX _ _ lk) rfl Sc.co Sc.gen rfl (PySem.W.codeRec_of KX hcd) (hbd _ _ _ _ (wpAny_newFunctionEnv_cells Sc.kind hk fun env he s1 x => ?_))
  subst he
  refine ⟨lim.keeps x.toInCall.keep, codeAny_func ?_⟩
  have I : Inv (cxOf (L2.CX P w) P w K mg base N qual scope f cdv A outer s H (XEnd K H F M XQ)) [] (L2.start N vs) H s1 := inv_start Sc hr.room.hd e0 (rp.length.trans hl) r x
  refine thn ((hb cdv A outer s H F (hr.deeper _)).run [] s1 (L2.start N vs) H F I (start_sim g rp)) fun fl s' hs => ?_
  cases fl with
  | ret u =>
    obtain ⟨v, σ', H', J, rv, F', M', d, t, rp', q⟩ := hs
    exact ⟨v, H', J.os, J.bare, J.base, J.hok, rv, F', M', d, t, rp', q⟩
  | next =>
    obtain ⟨σ', H', J, F', M', ρ', t, S', q⟩ := hs
    exact ⟨.non, H', J.os, J.bare, J.base, J.hok, rfl, F', M', .non, t, .non, q⟩
  | brk =>
    obtain ⟨_, _, _, _, _, _, _, _, q⟩ := hs
    exact False.elim q
  | cont =>
    obtain ⟨_, _, _, _, _, _, _, _, q⟩ := hs
    exact False.elim q
end

/-! ### calls -/
/-- what a body has around it -/
structure Lo (X : Cx) (k : Nat) : Prop where
  room : GRoom k X.A
  calm : X.calm = true
theorem Lo.mono {X : Cx} {j k : Nat} (l : Lo X k) (h : j ≤ k) : Lo X j := ⟨l.room.mono h, l.calm⟩
theorem Lo.u64 {X : Cx} {k : Nat} (l : Lo X k) : X.A.units + 64 < cLine := l.room.room.units
theorem Lo.u65 {X : Cx} {k : Nat} (l : Lo X k) : X.A.units + 65 < cLine := by have := l.room.room.un; omega
theorem noX_cx {P : Program} {w : World} {K : PySem.W.Frag} {outer : List Env} {H F : Hp} {M : Mp} {s : Shared} {e : Value} {s' : Shared} : ¬ L2.CX P w outer H s (XEnd K H F M noX) e s' := by
  rintro ⟨a, B, H', cls, d, _, _, _, _, _, _, _, C, dx, F', M', vfs, fs, _, _, _, _, _, h⟩
  exact h
section
variable {X : Cx} {pins : Pins} {σ : SS} {H F : Hp} {M : Mp} {ρ : En} {s : Shared} {Q : DQ} {k : Nat} {f C : Addr} {fd : FuncData} {ps : List Str} {x m : Str} {p pos apos : Pos} {e o : Expr} {es : List Expr} {ds : List D}
/-- behind a call -/
theorem call_back {u : Value} {s' : Shared} (I : Inv X pins σ H s) (h : CE X.stack X.prog X.w H s (QEnd X.K H F M Q) u s') : TEnd X pins σ H F M Q u s' := by
  obtain ⟨v, H', I', r, F', M', d, t, rp, q⟩ := I.after h
  exact ⟨v, H', F', M', d, I', r, t, rp, q⟩
/-- the callee runs -/
theorem TFn.call {us : List Value} {vs : List V} (T : TFn X.prog X.w X.K X.mg X.base k f fd ps ds M Q) (hr : GRoom k X.A) (hb : Binds X.K fd ps []) (I : Inv X pins σ H s) (g : Good X.K H F M) (r : Vals vs us) (rp : Reps X.K F vs ds) :
    wpAny (model X.prog X.w) X.A (call (.ref f) us) (TEnd X pins σ H F M Q) X.xe s := by
  have hl : (us ++ []).length = ps.length := by rw [List.append_nil, ← r.length, rp.length]; exact T.len
  have b := hb s us I.kIn hl
  rw [List.append_nil] at b
  refine wpAny_call (codeAny_mono (T.run X.A X.stack s H F ⟨us, []⟩ us vs hr I.env0 b r g rp) fun r s' hq => ?_)
  cases r with
  | error e => exact absurd hq noX_cx
  | ok fl =>
    cases fl with
    | ret u => exact call_back I hq
    | next => exact False.elim hq
    | brk => exact False.elim hq
    | cont => exact False.elim hq
/-- f(e, ..), f a def of the module -/
theorem WE.call (hr : GRoom k X.A) (hm : X.mg x = some (.ref f)) (hk : PySem.W.keepIn X.K (.ref f) = true) (hb : Binds X.K fd ps []) (h : WA X (e :: es) ρ M fun xs M1 => TFn X.prog X.w X.K X.mg X.base k f fd ps xs M1 Q)
    (hg : Gl X x := by rfl) (hdb : (x == ("__debug__" : Str)) = false := by decide) (he : starEach (e :: es) X.env = (false, eval e X.env) :: starEach es X.env := by rfl) (hpl : (backTo pos (starEach es X.env)).any (·.1) = false := by rfl) :
    WE X (.Call (.Name x p) (e :: es) [] pos) ρ M Q := by
  refine ⟨fun pins s σ H F I S => ?_⟩
  refine wpAny_Call_Name_kw (ld_glob I hg hm ?_ hdb)
  refine PySem.W.callWith_K (h₀ := X.base) I.ok.mod.kin hk (thn (h.run pos pins s σ H F I S) fun us s1 ⟨vs, H1, F1, M1, ds, I1, r, t, rp, q⟩ => ⟨I1.kIn, ?_⟩) he hpl
  exact thn (q.call hr hb I1 t.good r rp) fun _ _ z => z.back t
/-- o.m(e, ..), o an instance that nobody writes -/
theorem WE.meth {pl : Sem Bool} (hr : GRoom k X.A) (c : Cls X.K C) (hm : Meth X.K C m f) (hb : Binds X.K fd ps [])
    (h : WE X o ρ M fun z M1 => ∃ fs, z = .ins C fs ∧ fs.lookup m = none ∧ WA X (e :: es) ρ M1 fun xs M2 => TFn X.prog X.w X.K X.mg X.base k f fd ps (.ins C fs :: xs) M2 Q)
    (hst : starEach (e :: es) X.env = (false, eval e X.env) :: starEach es X.env := by rfl) (hpl : (backTo pos (starEach es X.env)).any (·.1) = false := by rfl)
    (ht : eval (.Call (.Attribute o m apos) (e :: es) [] pos) X.env = (do
      let ov ← eval o X.env
      standAt apos.atName
      let (f, first) ← holding [ov] (getMethod ov m pl)
      callWith pos f first (backTo pos (starEach (e :: es) X.env)) (backToKw pos (keywordEach [] X.env))) := by rfl) :
    WE X (.Call (.Attribute o m apos) (e :: es) [] pos) ρ M Q := by
  refine ⟨fun pins s σ H F I S => ?_⟩
  refine PySem.W.methodCall_KW (pl := pl) (thn (h.run pins s σ H F I S) fun u s1 ⟨v, H1, F1, M1, d, I1, rx, t1, rp1, fs, ed, l, q⟩ => ?_) ht
  subst ed
  have rp1' := rp1
  cases rp1 with
  | ins hF rF =>
    obtain rfl : u = _ := rx
    refine getmeth_ok I1 (t1.good.sub _ _ hF) c hm (rF.none l) ?_
    refine PySem.W.callWith_K (first := [.ref _]) (h₀ := X.base) I.ok.mod.kin hm.kp (thn (q.run pos pins s1 σ H1 F1 I1 (S.step t1)) fun us s2 ⟨vs, H2, F2, M2, ds, I2, r, t2, rp, q2⟩ => ⟨I2.kIn, ?_⟩) hst hpl
    exact thn (q2.call (us := .ref _ :: us) (vs := .ref _ :: vs) hr hb I2 t2.good (.cons rfl r) (.cons (t2.rep rp1') rp)) fun _ _ z => z.back (t1.trans t2)
/-- e.f of an instance -/
theorem WE.fld {fl : Str} (h : WE X e ρ M fun z M1 => ∃ C fs d, z = .ins C fs ∧ Cls X.K C ∧ NoAttr X.K C fl ∧ fs.lookup fl = some d ∧ Q d M1) (hb : attributeBase e fl X.env (eval e X.env) = eval e X.env := by rfl) : WE X (.Attribute e fl pos) ρ M Q := by
  refine ⟨fun pins s σ H F I S => ?_⟩
  refine attr_of hb (thn (h.run pins s σ H F I S) fun u s1 ⟨v, H1, F1, M1, d, I1, rx, t1, rp, C, fs, d', ed, c, n, l, q⟩ => ?_)
  subst ed
  cases rp with
  | ins hF rF =>
    obtain rfl : u = _ := rx
    obtain ⟨v', l', rp'⟩ := rF.lookup l
    exact getattr_ok I1 (t1.good.sub _ _ hF) c n l' fun u' s2 I2 ru => ⟨v', H1, F1, M1, d', I2, ru, t1, rp', q⟩
/-- .. of one that may be written -/
theorem WE.fldM {fl : Str} (h : WE X e ρ M fun z M1 => ∃ a C fs d, z = .ref a ∧ M1 a = some (.ins C fs) ∧ Cls X.K C ∧ NoAttr X.K C fl ∧ fs.lookup fl = some d ∧ Q d M1) (hb : attributeBase e fl X.env (eval e X.env) = eval e X.env := by rfl) : WE X (.Attribute e fl pos) ρ M Q := by
  refine ⟨fun pins s σ H F I S => ?_⟩
  refine attr_of hb (thn (h.run pins s σ H F I S) fun u s1 ⟨v, H1, F1, M1, d, I1, rx, t1, rp, a, C, fs, d', ed, hM, c, n, l, q⟩ => ?_)
  subst ed
  cases rp
  obtain rfl : u = _ := rx
  obtain ⟨dx, vs, hv, rF⟩ := t1.good.ins hM
  obtain ⟨v', l', rp'⟩ := rF.lookup l
  exact getattr_ok I1 hv c n l' fun u' s2 I2 ru => ⟨v', H1, F1, M1, d', I2, ru, t1, rp', q⟩
def putD (f : Str) (v : D) : List (Str × D) → List (Str × D)
  | [] => [(f, v)]
  | (g, x) :: r => if g = f then (g, v) :: r else (g, x) :: putD f v r
theorem RepF.put {K : PySem.W.Frag} {F : Hp} {f : Str} {v : V} {d : D} (rv : Rep K F v d) : ∀ {vs : List (Str × V)} {fs : List (Str × D)}, RepF K F vs fs → RepF K F (putF f v vs) (putD f d fs)
  | _, _, .nil => .cons rv .nil
  | _, _, .cons (n := n) a r => by
    unfold putF putD
    by_cases h : n = f
    · rw [if_pos h, if_pos h]; exact .cons rv r
    · rw [if_neg h, if_neg h]; exact .cons a (RepF.put rv r)
theorem RepF.len {K : PySem.W.Frag} {F : Hp} : ∀ {vs : List (Str × V)} {fs : List (Str × D)}, RepF K F vs fs → vs.length = fs.length
  | _, _, .nil => rfl
  | _, _, .cons _ r => congrArg (· + 1) (RepF.len r)
/-- o.f = e -/
theorem WS.fld {fl : Str} {value : Expr} {E : TEs} {pos' : Pos} (h : WE X value ρ M fun d M1 => WE X o ρ M1 fun z M2 => ∃ a C fs, z = .ref a ∧ M2 a = some (.ins C fs) ∧ Cls X.K C ∧ NoAttr X.K C fl ∧ fs.length < 1000 ∧ E.nx ρ (mset M2 a (.ins C (putD fl d fs))))
    (hs : swapsWith value (some (.Attribute o fl pos')) pos.line X.env = pure false := by rfl) : WS X (.Assign [.Attribute o fl pos'] value pos) ρ M E := by
  refine ⟨fun pins s σ H F I S => ?_⟩
  refine plainObj_wpAny_Assign_Attribute (thn (h.run pins s σ H F I S) fun u s1 ⟨y, H1, F1, M1, d, I1, ry, t1, rp, q⟩ => thn (q.run pins s1 σ H1 F1 I1 (S.step t1)) fun ov s2 ⟨x, H2, F2, M2, z, I2, rx, t2, rp2, a, C, fs, ed, hM, c, n, hl, q2⟩ => ?_) hs
  subst ed
  cases rp2
  obtain rfl : ov = _ := rx
  have t := t1.trans t2
  obtain ⟨dx, vs, hv, rF⟩ := t2.good.ins hM
  have t3 := Stp.write t2.good hM (.ins (C := C) (dx := dx) (rF.put (f := fl) (t2.rep rp)))
  exact setattr_ok I2 hv c n (by rw [rF.len]; exact hl) ry fun s3 I3 => ⟨σ, _, I3, F2, _, ρ, t.trans t3, (S.step t).step t3, q2⟩
end
/-- a new thing of which nothing is told -/
theorem Stp.newO {K : PySem.W.Frag} {H F : Hp} {M : Mp} {p : Addr} {o : HO} (r : Good K H F M) (hp : H p = none) : Stp K H F M (upd H p o) F M :=
  ⟨fun b u h n => ⟨by rw [upd_ne (ne_of_none h hp)]; exact h, n⟩, Sub.refl F, fun _ _ h => .inl h, r.other (r.freeF hp) (r.free hp)⟩
section
variable {X : Cx} {pins : Pins} {σ : SS} {H F : Hp} {M : Mp} {ρ : En} {s : Shared} {Q : DQ} {k : Nat} {f C : Addr} {fd : FuncData} {ps : List Str} {x m : Str} {p pos apos : Pos} {e o : Expr} {es : List Expr} {ds : List D}
/-- C(..): its __init__ runs on a new instance, which nobody writes behind it -/
def MakeQ (C x : Addr) (Q : DQ) : DQ := fun d M2 => d = .non ∧ ∃ fs, M2 x = some (.ins C fs) ∧ Q (.ins C fs) (mdel M2 x)
theorem TFn.make {us : List Value} {vs : List V} (Mk : L2.Mk X.K C f) (hr : GRoom (k + 1) X.A) (hb : Binds X.K fd ps []) (T : ∀ x, M x = none → TFn X.prog X.w X.K X.mg X.base k f fd ps (.ref x :: ds) (mset M x (.ins C [])) (MakeQ C x Q))
    (I : Inv X pins σ H s) (g : Good X.K H F M) (r : Vals vs us) (rp : Reps X.K F vs ds) : wpAny (model X.prog X.w) X.A (PySem.call (.ref C) us) (TEnd X pins σ H F M Q) X.xe s := by
  have h1 : H (s.heap.objs.size + 1) = none := I.hok.fresh (Nat.le_succ _)
  have h0 : H s.heap.objs.size = none := I.hok.fresh (Nat.le_refl _)
  have ne : s.heap.objs.size + 1 ≠ s.heap.objs.size := Nat.succ_ne_self _
  have I2 := Inv.made (C := C) I
  have t1 := Stp.newO (o := .own (s.heap.objs.size + 1)) g h0
  have t2 := Stp.newM (p := s.heap.objs.size + 1) (o := .ins C s.heap.objs.size []) (m := .ins C []) t1.good (by rw [upd_ne ne]; exact h1) (.ins .nil)
  have t := t1.trans t2
  have T1 := T (s.heap.objs.size + 1) (g.free h1)
  have r2 : Vals (V.ref (s.heap.objs.size + 1) :: vs) (Value.ref (s.heap.objs.size + 1) :: us) := .cons rfl r
  have hl : (Value.ref (s.heap.objs.size + 1) :: us ++ []).length = ps.length := by
    have e := T1.len
    rw [List.append_nil, ← r2.length, List.length_cons, rp.length, ← e, List.length_cons]
  have b := hb _ (Value.ref (s.heap.objs.size + 1) :: us) I2.kIn hl
  rw [List.append_nil] at b
  refine wpAny_call (make_map (f := f) I.kIn Mk.makes Mk.init (beq_iff_eq.mp Mk.fn) (codeAny_mono (T1.run _ X.stack _ _ F ⟨Value.ref (s.heap.objs.size + 1) :: us, []⟩ _ _ (hr.make C us []) (I2.env0.make C us []) b r2 t.good (.cons (.ref _) (t.reps rp))) fun r s' hq => ?_))
  cases r with
  | error e => exact absurd hq noX_cx
  | ok fl =>
    cases fl with
    | ret u =>
      obtain ⟨v, H', I3, rv, F', M', d, t3, rp3, ed, fs, hM, q⟩ := I2.after hq
      subst ed
      cases rp3
      obtain ⟨dx, vs', hv, rF⟩ := t3.good.ins hM
      have t4 := Stp.freeze t3.good hM hv
      exact ⟨rv, ⟨V.ref (s.heap.objs.size + 1), H', _, _, _, I3, rfl, (t.trans t3).trans t4, .ins upd_same (rF.mono t4.sub), q⟩⟩
    | next => exact False.elim hq
    | brk => exact False.elim hq
    | cont => exact False.elim hq
theorem WE.make (Mk : L2.Mk X.K C f) (hr : GRoom (k + 1) X.A) (hm : X.mg x = some (.ref C)) (hb : Binds X.K fd ps [])
    (h : WA X (e :: es) ρ M fun xs M1 => ∀ z, M1 z = none → TFn X.prog X.w X.K X.mg X.base k f fd ps (.ref z :: xs) (mset M1 z (.ins C [])) (MakeQ C z Q))
    (hg : Gl X x := by rfl) (hdb : (x == ("__debug__" : Str)) = false := by decide) (he : starEach (e :: es) X.env = (false, eval e X.env) :: starEach es X.env := by rfl) (hpl : (backTo pos (starEach es X.env)).any (·.1) = false := by rfl) :
    WE X (.Call (.Name x p) (e :: es) [] pos) ρ M Q := by
  refine ⟨fun pins s σ H F I S => ?_⟩
  refine wpAny_Call_Name_kw (ld_glob I hg hm ?_ hdb)
  refine PySem.W.callWith_K (h₀ := X.base) I.ok.mod.kin Mk.kp (thn (h.run pos pins s σ H F I S) fun us s1 ⟨vs, H1, F1, M1, ds, I1, r, t, rp, q⟩ => ⟨I1.kIn, ?_⟩) he hpl
  exact thn (TFn.make Mk hr hb q I1 t.good r rp) fun _ _ z => z.back t
end
end TL
end
section
set_option maxRecDepth 100000
/-! TK: calls by keywords; own ==, !=, len; == of tuples that hold instances. -/
namespace TL
open PySem PySem.Spec PyProof.Rows L2

/-- a built-in type by its name -/
theorem WE.ty {X : Cx} {M : Mp} {ρ : En} {Q : DQ} {x : Str} {n : String} {pos : Pos} (hm : X.mg x = none) (hv : bootBuiltins x = some (.type n)) (h : Q (.ty n) M) (hg : Gl X x := by rfl) (hn : x ≠ "__name__" := by decide) (hd : (x == ("__debug__" : Str)) = false := by decide) :
    WE X (.Name x pos) ρ M Q := .pe (pe_bltn (v := .ty n) hg hm hv rfl hn hd) fun σ H F S => ⟨F, M, _, Stp.refl S.good, .ty n, h⟩
/-- a class of the module, a def: an address -/
theorem WE.cls {X : Cx} {M : Mp} {ρ : En} {Q : DQ} {x : Str} {a : Addr} {pos : Pos} (hm : X.mg x = some (.ref a)) (h : Q (.ref a) M) (hg : Gl X x := by rfl) (hd : (x == ("__debug__" : Str)) = false := by decide) :
    WE X (.Name x pos) ρ M Q := .pe (pe_glob hg hm (v := .ref a) rfl hd) fun σ H F S => ⟨F, M, _, Stp.refl S.good, .ref a, h⟩

/-! ### keywords -/
/-- the keywords' values -/
structure WK (X : Cx) (kws : List Keyword) (ρ : En) (M : Mp) (Q : List D → Mp → Prop) : Prop where
  run : ∀ (pos : Pos) (pins : Pins) (s : Shared) (σ : SS) (H F : Hp), Inv X pins σ H s → Sim X.K H F M σ ρ → wpAny (model X.prog X.w) X.A (evalAll ((backToKw pos (keywordEach kws X.env)).map (·.2))) (AEnd X pins σ H F M Q) X.xe s
def turn {α : Type} (b : Bool) (l : List α) : List α := if b = true then l.reverse else l
theorem turn_len {α : Type} (b : Bool) (l : List α) : (turn b l).length = l.length := by cases b <;> simp [turn]
theorem Vals.turn {vs : List V} {us : List Value} (b : Bool) (h : Vals vs us) : Vals (TL.turn b vs) (TL.turn b us) := by
  cases b with
  | false => exact h
  | true =>
    show Vals vs.reverse us.reverse
    induction h with
    | nil => exact .nil
    | cons r _ ih => rw [List.reverse_cons, List.reverse_cons]; exact ih.append (.cons r .nil)
theorem Reps.turn {K : PySem.W.Frag} {F : Hp} {vs : List V} {ds : List D} (b : Bool) (h : Reps K F vs ds) : Reps K F (TL.turn b vs) (TL.turn b ds) := by
  cases b with
  | false => exact h
  | true => exact h.reverse
/-- the keywords ks name all parameters, in their order or turned about -/
def KwB (fd : FuncData) (ps ks : List Str) (b : Bool) : Prop := ∀ (s : Shared) (ws : List Value), ws.length = ks.length → BindsTo s fd ⟨[], ks.zip ws⟩ (ps.zip (turn b ws))
section
variable {X : Cx} {pins : Pins} {σ : SS} {H F : Hp} {M : Mp} {ρ : En} {s : Shared} {Q : DQ} {QA : List D → Mp → Prop} {k : Nat} {f C : Addr} {fd : FuncData} {ps ks : List Str} {x m : Str} {p pos kpos : Pos} {e o : Expr} {kws : List Keyword} {ds : List D} {b : Bool} {nm : Option Str}
theorem WK.nil (h : QA [] M) : WK X [] ρ M QA := ⟨fun _ _ _ _ H F I S => wpAny_evalAll_nil ⟨[], H, F, M, [], I, .nil, Stp.refl S.good, .nil, h⟩⟩
theorem WK.cons (h : WE X e ρ M fun x M1 => WK X kws ρ M1 fun xs M2 => QA (x :: xs) M2) : WK X (⟨nm, e, kpos⟩ :: kws) ρ M QA := by
  refine ⟨fun pos pins s σ H F I S => ?_⟩
  show wpAny _ _ (evalAll ((do let v ← eval e X.env; standAt pos; pure v) :: (backToKw pos (keywordEach kws X.env)).map (·.2))) _ _ s
  refine wpAny_evalAll_cons (wpAny_bind (thn (h.run pins s σ H F I S) fun u s1 ⟨x, H1, F1, M1, d, I1, r1, t1, p1, q1⟩ => wpAny_bind (wpAny_standAt (wpAny_pure ?_))))
  exact thn (q1.run pos pins s1 σ H1 F1 I1 (S.step t1)) fun us s2 ⟨xs, H2, F2, M2, ds, I2, r2, t2, p2, q2⟩ => ⟨x :: xs, H2, F2, M2, d :: ds, I2, .cons r1 r2, t1.trans t2, .cons (t2.rep p1) p2, q2⟩
theorem WE.callKw (b : Bool) (hr : GRoom k X.A) (hm : X.mg x = some (.ref f)) (hk : PySem.W.keepIn X.K (.ref f) = true) (hb : KwB fd ps ks b) (hl : ps.length = ks.length) (h : WK X kws ρ M fun xs M1 => TFn X.prog X.w X.K X.mg X.base k f fd ps (turn b xs) M1 Q)
    (hg : Gl X x := by rfl) (hall : (backToKw pos (keywordEach kws X.env)).all (·.1.isSome) = true := by rfl) (hks : (backToKw pos (keywordEach kws X.env)).filterMap (·.1) = ks := by rfl) (hdb : (x == ("__debug__" : Str)) = false := by decide)
    (hpl : ((backTo pos (starEach [] X.env)).any (·.1) || (backToKw pos (keywordEach kws X.env)).any (·.1.isNone)) = false := by rfl) : WE X (.Call (.Name x p) [] kws pos) ρ M Q := by
  refine ⟨fun pins s σ H F I S => ?_⟩
  refine wpAny_Call_Name_kw (ld_glob I hg hm ?_ hdb)
  refine PySem.W.callWith_KW0 (h₀ := X.base) I.ok.mod.kin hk hall ?_ hpl
  refine thn (h.run pos pins s σ H F I S) fun ws s1 ⟨zs, H1, F1, M1, ds, I1, rz, t, rp, q⟩ => ⟨I1.kIn, ?_⟩
  rw [hks]
  have hw : ws.length = ks.length := by rw [← rz.length, rp.length, ← turn_len b ds, q.len, hl]
  refine wpAny_call (codeAny_mono (q.run X.A X.stack s1 H1 F1 ⟨[], ks.zip ws⟩ _ _ hr I1.env0 (hb s1 ws hw) (Vals.turn b rz) t.good (Reps.turn b rp)) fun r s' hq => ?_)
  cases r with
  | error e => exact absurd hq noX_cx
  | ok fl =>
    cases fl with
    | ret u => exact (call_back I1 hq).back t
    | next => exact False.elim hq
    | brk => exact False.elim hq
    | cont => exact False.elim hq
end

/-! ### own len, ==, != -/
section
variable {X : Cx} {pins : Pins} {σ : SS} {H F : Hp} {M : Mp} {ρ : En} {s : Shared} {Q : DQ} {k : Nat} {f C : Addr} {fd : FuncData} {ps : List Str} {fs gs : List (Str × D)}
theorem kin_at {K : PySem.W.Frag} {F : Hp} {v : V} (h : Rep K F v (.ins C fs)) : ∃ a dx vs, v = .ref a ∧ F a = some (.ins C dx vs) := by
  cases h with
  | ins h _ => exact ⟨_, _, _, rfl, h⟩
theorem inst_at (I : Inv X pins σ H s) {a C dx : Addr} {vs : List (Str × V)} (h : H a = some (.ins C dx vs)) : ∃ od, PySem.W.InstAt s.heap a (PySem.W.instObj C dx) C (some od) := by
  obtain ⟨mA, O, _⟩ := ins_get I.hok h
  obtain ⟨od, J, _⟩ := O.look
  exact ⟨od, J⟩
theorem VC.lenOwn (hr : GRoom (k + 1) X.A) (hs : PySem.W.findIn X.K (.ref C) "__len__" = some (some (.ref f))) (hf : PySem.W.isFn X.K (.ref f) = true) (hb : Binds X.K fd ps [])
    (T : TFn X.prog X.w X.K X.mg X.base k f fd ps [.ins C fs] M fun d M' => ∃ n : Nat, d = .int n ∧ n < 2 ^ 62 ∧ Q (.int n) M') : VC X (.builtin "len") [.ins C fs] M Q := by
  intro pins s σ H F vs us I R r1 p1
  cases p1 with
  | cons p1 p2 =>
    cases p2
    cases r1 with
    | cons r1 r2 =>
      cases r2
      obtain ⟨a, dx, vs, rfl, hF⟩ := kin_at p1
      cases r1
      obtain ⟨od, J⟩ := inst_at I (R.sub _ _ hF)
      obtain ⟨m, hFr⟩ := I.fr
      refine PySem.W.len_K hFr I.ok.mod.kin J hs hf ?_
      have e0 : Env0 X.prog X.w X.K X.mg X.base X.A.in1 X.stack s H := I.env0.in1
      have b := hb s [.ref a] I.kIn (by have := T.len; simpa using this)
      refine wpAny_call (codeAny_mono (T.run X.A.in1 X.stack s H F ⟨[.ref a], []⟩ [.ref a] [.ref a] hr.in1 e0 (by simpa using b) (.cons rfl .nil) R (.cons p1 .nil)) fun r s' hq => ?_)
      cases r with
      | error e => exact absurd hq noX_cx
      | ok fl =>
        cases fl with
        | ret w =>
          obtain ⟨v, H', F', M', d, I', rv, t, rp, n, ed, hn, q⟩ := call_back I hq
          subst ed
          cases rp
          obtain ⟨tk, rfl⟩ := rv
          refine ⟨⟨by omega, by omega⟩, .int n, H', F', M', _, I'.tok _, ⟨_, rfl⟩, t, .int _, q⟩
        | next => exact False.elim hq
        | brk => exact False.elim hq
        | cont => exact False.elim hq
/-- an own method of two arguments, called below -/
theorem own_call {A : Around} {a : Addr} {Q' : Value → Shared → Prop} {d2 : D} (hr : GRoom k A) (hfr : A.frames = X.A.frames) (hb : Binds X.K fd ps []) (T : TFn X.prog X.w X.K X.mg X.base k f fd ps [.ins C fs, d2] M Q)
    (I : Inv X pins σ H s) (R : Good X.K H F M) (p1 : Rep X.K F (.ref a) (.ins C fs)) {v2 : V} {u2 : Value} (r2 : RelV v2 u2) (p2 : Rep X.K F v2 d2) (h : ∀ u s', TEnd X pins σ H F M Q u s' → Q' u s') :
    wpAny (model X.prog X.w) A (call (.ref f) [.ref a, u2]) Q' X.xe s := by
  have e := I.env0
  have e0 : Env0 X.prog X.w X.K X.mg X.base A X.stack s H := ⟨by rw [hfr]; exact e.frames, e.mod, e.bs, e.bsz, e.funs, e.frf, e.hok, e.bare⟩
  have b := hb s [.ref a, u2] I.kIn (by have := T.len; simpa using this)
  refine wpAny_call (codeAny_mono (T.run A X.stack s H F ⟨[.ref a, u2], []⟩ [.ref a, u2] [.ref a, v2] hr e0 (by simpa using b) (.cons rfl (.cons r2 .nil)) R (.cons p1 (.cons p2 .nil))) fun r s' hq => ?_)
  cases r with
  | error e => exact absurd hq noX_cx
  | ok fl =>
    cases fl with
    | ret w => exact h _ _ (call_back I hq)
    | next => exact False.elim hq
    | brk => exact False.elim hq
    | cont => exact False.elim hq
/-- x == y by the class's own __eq__ -/
theorem VO.eqOwn (hr : GRoom k X.A) (hs : PySem.W.findIn X.K (.ref C) "__eq__" = some (some (.ref f))) (hf : PySem.W.isFn X.K (.ref f) = true) (hb : Binds X.K fd ps [])
    (T : TFn X.prog X.w X.K X.mg X.base k f fd ps [.ins C fs, .ins C gs] M fun d M' => ∃ b : Bool, d = .bl b ∧ Q (.bl b) M') : VO X (compareOp .Eq) (.ins C fs) (.ins C gs) M Q := by
  intro pins s σ H F v1 v2 u1 u2 I R r1 r2 p1 p2
  obtain ⟨a, dx, vs, rfl, hF⟩ := kin_at p1
  obtain ⟨b, dy, ws, rfl, hG⟩ := kin_at p2
  cases r1
  cases r2
  obtain ⟨od, J⟩ := inst_at I (R.sub _ _ hF)
  obtain ⟨od', J'⟩ := inst_at I (R.sub _ _ hG)
  obtain ⟨m, hFr⟩ := I.fr
  refine PySem.W.cmp_ofEq (PySem.W.cmp_K (op := .Eq) (tb := .ref C) hr.room.units0 hFr I.ok.mod.kin J J'.type (by simp [PySem.W.notFirst]) hs hf ?_)
  refine own_call hr rfl hb T I R p1 (v2 := .ref b) rfl p2 fun u s' h => ?_
  obtain ⟨v, H', F', M', d, I', rv, t, rp, c, ed, q⟩ := h
  subst ed
  cases rp
  cases rv
  exact ⟨.bl c, H', F', M', _, I', rfl, t, .bl c, q⟩
/-- what an instance's class must have, for != by its own __eq__ -/
structure NeC (K : PySem.W.Frag) (C g : Addr) : Prop where
  eq : PySem.W.findIn K (.ref C) "__eq__" = some (some (.ref g))
  fn : PySem.W.isFn K (.ref g) = true
  ne : PySem.W.findIn K (.ref C) "__ne__" = some (some (.builtin "object.__ne__"))
  obj : PySem.W.mroIn K C (.type "object") = some true
theorem ne_body {A : Around} {E : Value → Shared → Prop} {s : Shared} {a b C g dx : Addr} {od : Option Obj} {Q : Fin → Shared → Prop} {P : Program} {w : World} {K : PySem.W.Frag} (X : K.In s.heap) (I : PySem.W.InstAt s.heap a (PySem.W.instObj C dx) C od) (N : NeC K C g)
    (hu : A.units < cLine) (h : wpAny (model P w) A (call (.ref g) [.ref a, .ref b]) (fun v s' => ∃ c, v = .bool c ∧ Q (.done (.ret (.bool (!c)))) s') E s) : wpAny (model P w) A (Builtin.«object.__ne__» ⟨[.ref a, .ref b], []⟩) Q E s := by
  unfold Builtin.«object.__ne__»
  repeat (first
    | with_reducible refine wpAny_cRoomFor hu ?_
    | (refine wpAny_bind (m := callSpecialIfBound? (.ref a) (Str.ofString "__eq__") [.ref b])
        (PySem.W.ifBound_K X I N.eq N.fn (wpAny_mono h (fun r s' hr => by
          obtain ⟨c, e, hq⟩ := hr
          subst e
          repeat (first | exact hq | exact wpAny_pure hq | exact wpAny_truthy_bool hq | (refine wpAny_bind (m := truthy (.bool _)) (wpAny_truthy_bool ?_)) | wp_step)) fun _ _ e => e)))
    | wp_step)
theorem ne_try {A : Around} {E : Value → Shared → Prop} {s : Shared} {a b C g dx : Addr} {od : Option Obj} {Q : Option Value → Shared → Prop} {P : Program} {w : World} {K : PySem.W.Frag} (X : K.In s.heap) (I : PySem.W.InstAt s.heap a (PySem.W.instObj C dx) C od) (N : NeC K C g)
    (hu : A.units + 1 < cLine) (h : wpAny (model P w) A.in1 (call (.ref g) [.ref a, .ref b]) (fun v s' => ∃ c, v = .bool c ∧ Q (some (.bool (!c))) s') E s) : wpAny (model P w) A (tryCompare (.ref a) "__ne__" (.ref b)) Q E s := by
  have hi : PySem.W.Looks (model P w) s.heap (isInstance (.ref a) (.type "object")) true := I.type.andThen (PySem.W.looks_mroIn X N.obj)
  have core : wpAny (model P w) A (call (.builtin "object.__ne__") [.ref a, .ref b]) (fun v s' => ∃ c, v = .bool c ∧ Q (some (.bool c)) s') E s := by
    refine wpAny_call (codeAny_call_builtin F.cmp_object.ne.plain F.cmpEntry_ne (PySem.W.check_slot F.cmpKind_ne F.cmpSplit_ne hi (F.cmpArgs_ne _ _) (ne_body X I N hu (thn h fun v s' hv => ?_))))
    obtain ⟨c, e, q⟩ := hv
    exact ⟨c, e, !c, rfl, q⟩
  simp only [tryCompare, callSpecialIfBound?, bindSpecialIfBound?]
  have fin : wpAny (model P w) A (call (.builtin "object.__ne__") ([.ref a] ++ [.ref b]) >>= fun v => pure (some v)) (fun r s' => ∃ c, r = some (.bool c) ∧ Q (some (.bool c)) s') E s :=
    wpAny_bind (thn core fun v s' ⟨c, e, q⟩ => by subst e; exact wpAny_pure ⟨c, rfl, q⟩)
  refine wpAny_bind (wpAny_holding (wpAny_bind (wpAny_bind (wpAny_bind (I.type.here ((PySem.W.looks_findIn X N.ne).here ?_))))))
  refine wpAny_bind (wpAny_askSetting (wpAny_ite ?_))
  split
  · exact wpAny_bind (wpAny_of_eq (F.cmp_object.ne.bind _) (wpAny_pure (thn fin fun r s' z => by obtain ⟨c, e, q⟩ := z; subst e; exact wpAny_pure q)))
  · exact wpAny_tryCatch (wpAny_bind (wpAny_of_eq (F.cmp_object.ne.bind _) (wpAny_pure (thn fin fun r s' z => by obtain ⟨c, e, q⟩ := z; subst e; exact wpAny_pure q))))
/-- x != y by the class's own __eq__ -/
theorem VO.neOwn {g : Addr} (hr : GRoom (k + 1) X.A) (N : NeC X.K C g) (hb : Binds X.K fd ps [])
    (T : TFn X.prog X.w X.K X.mg X.base k g fd ps [.ins C fs, .ins C gs] M fun d M' => ∃ b : Bool, d = .bl b ∧ Q (.bl (!b)) M') : VO X (compareOp .NotEq) (.ins C fs) (.ins C gs) M Q := by
  intro pins s σ H F v1 v2 u1 u2 I R r1 r2 p1 p2
  obtain ⟨a, dx, vs, rfl, hF⟩ := kin_at p1
  obtain ⟨b, dy, ws, rfl, hG⟩ := kin_at p2
  cases r1
  cases r2
  obtain ⟨od, J⟩ := inst_at I (R.sub _ _ hF)
  obtain ⟨od', J'⟩ := inst_at I (R.sub _ _ hG)
  refine PySem.W.cmp_ofNotEq ?_
  unfold richCompare
  simp only [oneThing_ref]
  refine wpAny_holding (wpAny_bind (wpAny_cRoomFor hr.room.units0 (wpAny_bind (J.type.here (wpAny_bind (J'.type.here ?_))))))
  rw [show (Value.ref C != Value.ref C) = false from by simp]
  simp only [Bool.false_eq_true, if_false]
  refine wpAny_bind (wpAny_pure ?_)
  simp only [Bool.false_eq_true, if_false]
  refine wpAny_bind (ne_try I.kIn J N (by have := hr.room.un; omega) (own_call hr.in1 rfl hb T I R p1 (v2 := .ref b) rfl p2 fun u s' h => ?_))
  obtain ⟨v, H', F', M', d, I', rv, t, rp, c, ed, q⟩ := h
  subst ed
  cases rp
  cases rv
  exact ⟨c, rfl, wpAny_pure ⟨.bl (!c), H', F', M', _, I', rfl, t, .bl _, q⟩⟩
/-- == inside a built-in gives True, and the data of the heap stay -/
def VB (X : Cx) (A : Around) (x y : D) (M : Mp) : Prop :=
  ∀ (pins : Pins) (s : Shared) (σ : SS) (H F : Hp) (v1 v2 : V) (u1 u2 : Value), Inv X pins σ H s → Good X.K H F M → RelV v1 u1 → RelV v2 u2 → Rep X.K F v1 x → Rep X.K F v2 y →
    wpAny (model X.prog X.w) A (eqBool u1 u2) (fun r s' => r = true ∧ ∃ H' F', Inv X pins σ H' s' ∧ Stp X.K H F M H' F' M) X.xe s
theorem VB.flat {A : Around} {x y : D} (hx : flatD x = true) (hy : flatD y = true) (he : eqD x y = true) : VB X A x y M := by
  intro pins s σ H F v1 v2 u1 u2 I R r1 r2 p1 p2
  have q := eqAt_V (A := A) (s := s) r1 r2 (flat_v p1 hx) (flat_v p2 hy)
  rw [flat_eq p1 p2 hx hy, he] at q
  exact q X.prog X.w X.xe _ ⟨rfl, H, F, I, Stp.refl R⟩
theorem VB.ins {A : Around} {g : Addr} (hr : GRoom k A) (hfr : A.frames = X.A.frames) (hs : PySem.W.findIn X.K (.ref C) "__eq__" = some (some (.ref g))) (hf : PySem.W.isFn X.K (.ref g) = true) (hb : Binds X.K fd ps [])
    (T : TFn X.prog X.w X.K X.mg X.base k g fd ps [.ins C fs, .ins C gs] M fun d M' => d = .bl true ∧ M' = M) : VB X A (.ins C fs) (.ins C gs) M := by
  intro pins s σ H F v1 v2 u1 u2 I R r1 r2 p1 p2
  obtain ⟨a, dx, vs, rfl, hF⟩ := kin_at p1
  obtain ⟨b, dy, ws, rfl, hG⟩ := kin_at p2
  cases r1
  cases r2
  obtain ⟨od, J⟩ := inst_at I (R.sub _ _ hF)
  obtain ⟨od', J'⟩ := inst_at I (R.sub _ _ hG)
  obtain ⟨m, hFr⟩ := I.fr
  by_cases hab : a = b
  · subst hab
    exact (SeqAt.EqAt.same (A := A) (s := s) (Value.ref a)) X.prog X.w X.xe _ ⟨rfl, H, F, I, Stp.refl R⟩
  · have key : wpAny (model X.prog X.w) A (richCompare .Eq (.ref a) (.ref b)) (fun v s' => ∃ r, v = .bool r ∧ (r = true ∧ ∃ H' F', Inv X pins σ H' s' ∧ Stp X.K H F M H' F' M)) X.xe s := by
      refine (PySem.W.cmp_K (op := .Eq) (tb := .ref C) hr.room.units0 hFr I.ok.mod.kin J J'.type (by simp [PySem.W.notFirst]) hs hf (own_call hr hfr hb T I R p1 (v2 := .ref b) rfl p2 fun u s' h => ?_))
      obtain ⟨v, H', F', M', d, I', rv, t, rp, ed, em⟩ := h
      subst ed em
      cases rp
      cases rv
      exact ⟨true, rfl, rfl, H', F', I', t⟩
    exact GQ.eqBool_refG hab key
/-- (x, x2) == (y, y2), all equal -/
theorem VO.eqTup2 {x x2 y y2 : D} (hr : GRoom k X.A) (h1 : VB X X.A.in1 x y M) (h2 : VB X X.A.in1 x2 y2 M) (h : Q (.bl true) M) : VO X (compareOp .Eq) (.tup [x, x2]) (.tup [y, y2]) M Q := by
  intro pins s σ H F v1 v2 u1 u2 I R r1 r2 p1 p2
  cases p1 with
  | @tup a va _ q1 p1 =>
    cases p2 with
    | @tup b vb _ q2 p2 =>
      cases r1
      cases r2
      obtain ⟨its, w1, e1, z1⟩ := I.tuple (R.sub.sqT q1)
      obtain ⟨its2, w2, e2, z2⟩ := I.tuple (R.sub.sqT q2)
      cases p1 with
      | cons a1 p1 =>
        cases p1 with
        | cons a2 p1 =>
          cases p1
          cases p2 with
          | cons b1 p2 =>
            cases p2 with
            | cons b2 p2 =>
              cases p2
              cases w1 with
              | cons r1 w1 =>
                cases w1 with
                | cons r2 w1 =>
                  cases w1
                  cases w2 with
                  | cons r3 w2 =>
                    cases w2 with
                    | cons r4 w2 =>
                      cases w2
                      refine PySem.W.cmp_ofEq (GQ.rc_tupG (by exact rfl) hr.room.units0 (fun _ s' => ∃ H' F', Inv X pins σ H' s' ∧ Stp X.K H F M H' F' M) e1 e2 (fun i k1 k2 s' l => ?_) (fun s' l => ?_) ⟨H, F, I, Stp.refl R⟩)
                      · obtain ⟨H', F', I', t⟩ := l
                        have k1' : i < 2 := k1
                        match i, k1' with
                        | 0, _ => exact thn (h1 pins s' σ H' F' _ _ _ _ I' t.good r1 r3 (t.rep a1) (t.rep b1)) fun r s2 ⟨e, H2, F2, I2, t2⟩ => ⟨e, H2, F2, I2, t.trans t2⟩
                        | 1, _ => exact thn (h2 pins s' σ H' F' _ _ _ _ I' t.good r2 r4 (t.rep a2) (t.rep b2)) fun r s2 ⟨e, H2, F2, I2, t2⟩ => ⟨e, H2, F2, I2, t.trans t2⟩
                      · obtain ⟨H', F', I', t⟩ := l
                        exact ⟨.bl true, H', F', M, _, I', rfl, t, .bl true, h⟩
end
end TL
end
section
set_option maxRecDepth 100000
set_option maxHeartbeats 2000000
/-! TX: exceptions of own classes over Exception, whose __init__ says super().__init__(x); self.x = x. -/
namespace TL
open PySem PySem.Spec PyProof.Rows L2
open PySem.W (kxs_mw)

abbrev exB : List Value := [.type "Exception", .type "BaseException", .type "object"]
/-- that __init__'s text -/
def badBody (fl : Str) (p0 p1 p2 p3 p4 p5 p6 p7 p8 p9 : Pos) : List Stmt :=
  [.Expr (.Call (.Attribute (.Call (.Name "super" p0) [] [] p1) "__init__" p2) [.Name fl p3] [] p4) p5, .Assign [.Attribute (.Name "self" p6) fl p7] (.Name fl p8) p9]
/-- its scope -/
def badScope (fl : Str) : Scope := { kind := .function, names := [("self", .local), (fl, .local), ("__class__", .free), ("super", .globalImplicit)], isGenerator := false, isCoroutine := false, more := [] }

/-- what the written part says of such a class -/
structure BadI (P : Program) (K : PySem.W.Frag) (C fI : Addr) (fl : Str) (fd : FuncData) : Prop where
  cls : PySem.W.excInitIn K C exB "Exception.__new__" = true
  cdt : ∃ cd, PySem.W.clsIn K C = some cd ∧ cd.hasDict = true ∧ PySem.W.excTail exB cd.mro = true
  sa : PySem.W.findIn K (.ref C) "__setattr__" = some (some (.builtin "object.__setattr__"))
  exC : PySem.W.subIn K (.ref C) (.type "BaseException") = some true
  exE : PySem.W.subIn K (.ref C) (.type "Exception") = some true
  exO : PySem.W.mroIn K C (.type "object") = some true
  own : PySem.W.mroIn K C (.ref C) = some true
  tyC : PySem.W.typeIn K (.ref C) = some (.type "type")
  kC : PySem.W.keepIn K (.ref C) = true
  ini : PySem.W.findIn K (.ref C) "__init__" = some (some (.ref fI))
  tI : PySem.W.typeIn K (.ref fI) = some (.type "function")
  no : PySem.W.findIn K (.ref C) fl = some none
  sup : PySem.W.ks_superIn K C C "__init__" = some (some (.builtin "Exception.__init__"))
  opq : PySem.W.nsIn K cStatics "thirdparty.any" = some none
  fn : ∃ (q : Str) (p0 p1 p2 p3 p4 p5 p6 p7 p8 p9 : Pos) (ps : Arguments) (dV kV doc pm ct oc cl ccl : Value) (an od cld cdd : Option Addr) (cda cc : Addr) (osl csl ccs : Array (Option Value)) (vs : Array Value) (file : Str) (tf : Tok),
    fd = PySem.W.fnX "__init__" q ps (badBody fl p0 p1 p2 p3 p4 p5 p6 p7 p8 p9) (badScope fl) [("__class__", cc)] dV kV doc pm an (.ref cda) ct ∧ (ps.posonlyargs ++ ps.args).head?.map (·.arg) = some ("self" : Str) ∧ K.lookup fI = some ⟨oc, od, .func fd, osl⟩ ∧
    PySem.W.codeIn K (.ref cda) q = true ∧ K.lookup cc = some ⟨cl, cld, .cell (some (.ref C)), csl⟩ ∧ K.lookup cda = some ⟨ccl, cdd, .fields vs, ccs⟩ ∧ vs[2]? = some (.str file tf) ∧ ((P.main.file : Str) == file) = true ∧ (p2.endLine == p4.line) = true ∧ (P.main.scope.names.lookup ("super" : Str)).isSome = false

section
open Builtin Builtin.ObjectAttr PySem.W PySem.Calls
variable {P : Program} {w : World} {A : Around} {E : Value → Shared → Prop} {R : Result → Shared → Prop} {hp : Heap} {g : Array GenState} {dr : Drawn} {t : Nat} {os : OsState} {K : PySem.W.Frag}
/-- self.f = v, its first field -/
theorem bad_store {name : Str} {tk : Tok} {v : Value} {x C : Addr} {fv : Array Value} {cd : ClassData} (kin : K.In hp) (ox : hp.get? x = some { cls := .ref C, data := .fields fv }) (ecd : clsIn K C = some cd) (em : excTail exB cd.mro = true)
    (eh : cd.hasDict = true) (eo : mroIn K C (.type "object") = some true) (ea : findIn K (.ref C) name = some none)
    (hq : ∀ h' tk' dx, (∀ b o, b ≠ x → hp.get? b = some o → h'.get? b = some o) → hp.objs.size ≤ dx → dx ≠ x → h'.get? x = some { cls := .ref C, dict := some dx, data := .fields fv } → h'.Ns1 dx (fun y => if y = name then some v else none) →
      R (.ok (.ret .none)) ⟨h', g, dr, tk', os⟩) : codeAny (model P w) A (.call (.builtin "object.__setattr__") ⟨[.ref x, .str name tk, v], []⟩) R ⟨hp, g, dr, t, os⟩ := by
  have at_ : InstAt hp x { cls := .ref C, data := .fields fv } C none := ⟨ox, rfl, rfl, trivial⟩
  have sf := F.store_object
  have old : x ≠ hp.objs.size := Nat.ne_of_lt (Heap.lt_size ox)
  have hsub : Looks (model P w) hp (isInstance (.ref x) (.type "object")) true := at_.type.andThen (looks_mroIn kin eo)
  refine codeAny_call_builtin sf.slot.plain sf.entry (@check_slot (model P w) _ _ ⟨hp, g, dr, t, os⟩ "object.__setattr__" "object" "__setattr__" (.ref x) [.str name tk, v] [] _ sf.kind sf.split hsub (sf.args (.ref x) (.str name tk) v) ?_)
  have look2 : Looks (model P w) hp (mroOf (.ref C)) cd.mro := (looks_clsIn kin ecd).andThen .now
  have look3 : Looks (model P w) hp (storeTaker? none) none := .now
  have look4 : Looks (model P w) hp (classData C) cd := looks_clsIn kin ecd
  rw [osa_eq, refuse_eq]
  refine wpAny_bind (wpAny_bind (at_.type.at (wpAny_bind (look2.at ?_))))
  rw [excTail_pass _ (F.store_Exception.passes _) _ em]
  refine wpAny_pure (wpAny_bind (at_.type.at (wpAny_bind ((looks_findIn kin ea).at (wpAny_bind (look3.at ?_))))))
  show wpAny _ _ (storeInOwnDict (.ref x) (.ref C) (.str name tk) name v false) _ _ _
  obtain ⟨nm, bs, mro, ns, qn, hd, sn, sb, ab, col, del⟩ := cd
  dsimp only at eh
  subst eh
  unfold storeInOwnDict ownDictForStores
  repeat (first
    | with_reducible refine PySem.HandSPX.store_in_new ?_ ?_
    | with_reducible refine wpAny_loadPart_at ox ?_
    | with_reducible refine look4.at ?_
    | wp_step)
  · exact ⟨_, #[], _, (Heap.get?_update_ne _ _ _ _ old.symm).trans (Heap.get?_push_at rfl rfl), rfl, fun e he => absurd he (by simp), fun _ => rfl⟩
  · intro h' tk' hn' sb'
    have o2 : (hp.push { cls := .type "dict", data := .dict #[] }).get? x = some { cls := .ref C, data := .fields fv } := Heap.get?_push_of_some _ ox
    refine hq h' tk' hp.objs.size (fun b o hb ho => ?_) (Nat.le_refl _) old.symm ?_ hn'
    · exact (sb'.2 b (Nat.ne_of_lt (Heap.lt_size ho))).trans ((Heap.get?_update_ne _ _ _ _ hb).trans (Heap.get?_push_of_some _ ho))
    · exact (sb'.2 x old).trans (Heap.get?_update_self _ o2 rfl)

theorem bad_call {M : Model} {c : Code} {env : Env} {s : Shared} {o e : Expr} {name : Str} {apos pos : Pos} {Q : Value → Shared → Prop} (hline : (apos.endLine == pos.line) = true) (hf : methodCallForm 1 (backTo pos (starEach [e] env)) [] = true)
    (h : ∀ pl, PySem.wpAt M A c (attributeBase o name env (eval o env)) (fun ov s₁ => wpAny M A (getMethod ov name pl) (fun fx s₂ => wpAny M A (callWith pos fx.1 fx.2 (backTo pos (starEach [e] env)) []) Q E s₂) E s₁) E s) :
    PySem.wpAt M A c (eval (.Call (.Attribute o name apos) [e] [] pos) env) Q E s := by
  have hform : methodCallForm ([e].length + ([] : List Keyword).length) (backTo pos (starEach [e] env)) (backToKw pos (keywordEach [] env)) = true := hf
  have hpos : methodCallPos true o env apos pos = pure pos := by unfold methodCallPos; simp [hline]
  rw [arm_eval_Call]
  refine PySem.wpAt_bind (ks_wpAt_mono (h (do return (← importBound o env).getD true)) (fun ov s1 h1 => ?_) fun _ _ z => z)
  refine PySem.wpAt_of_wpAny (wpAny_bind (wpAny_standAt ?_))
  unfold methodCall
  rw [hform]
  refine wpAny_bind (wpAny_holding (thn h1 fun fx s2 h2 => ?_))
  exact wpAny_bind (wpAny_of_eq hpos h2)
/-- the __init__ runs -/
theorem bad_init {C fI e t0 : Addr} {fl : Str} {fd : FuncData} {u : Value} {base : Heap} {mg : Str → Option Value} (T : BadI P K C fI fl fd) (hM : Mod K mg base) (bk : ∀ b o, base.get? b = some o → hp.get? b = some o) (hsup : mg "super" = none) (hbe : base.get? e = none)
    (hb : Binds K fd ["self", fl] []) (hnm : ("self" : Str) ≠ fl ∧ ("super" : Str) ≠ fl ∧ ("__class__" : Str) ≠ fl ∧ (fl == ("__debug__" : Str)) = false) (hroom : A.depth < recursionLimit)
    (he : hp.get? e = some (PySem.HandSPX.excO C t0))
    (hq : ∀ h' tk' dx t1, (∀ b o, b ≠ e → hp.get? b = some o → h'.get? b = some o) → hp.objs.size ≤ dx → h'.get? e = some { cls := .ref C, dict := some dx, data := .fields #[.ref t1, .none, .none, .none, .bool false, .none] } →
      h'.Ns1 dx (fun y => if y = fl then some u else none) → R (.ok (.ret .none)) ⟨h', g, dr, tk', os⟩) :
    codeAny (model P w) A (.call (.ref fI) ⟨[.ref e, u], []⟩) R ⟨hp, g, dr, t, os⟩ := by
  obtain ⟨q, p0, p1, p2, p3, p4, p5, p6, p7, p8, p9, prm, dV, kV, doc, pm, ct, oc, cl, ccl, an, od, cld, cdd, cda, cc, osl, csl, ccs, vs, file, tf, rfl, hself, lkf, hcode, lkc, lkd, hvs, hfile, hline, htop⟩ := T.fn
  have kin : K.In hp := hM.kin.keeps bk
  obtain ⟨hn1, hn2, hn3, hn4⟩ := hnm
  have k1 : (badScope fl).names.lookup ("self" : Str) = some .local := rfl
  have k2 : (badScope fl).names.lookup fl = some .local := by
    have z : (fl == ("self" : Str)) = false := by simpa using fun h => hn1 h.symm
    simp [badScope, List.lookup, z]
  have k3 : (badScope fl).names.lookup ("super" : Str) = some .globalImplicit := by
    have z : (("super" : Str) == fl) = false := by simpa using hn2
    have z1 : (("super" : Str) == ("self" : Str)) = false := by decide
    have z2 : (("super" : Str) == ("__class__" : Str)) = false := by decide
    simp only [badScope, List.lookup, z, z1, z2]
    rfl
  have k4 : (badScope fl).names.lookup ("__class__" : Str) = some .free := by
    have z : (("__class__" : Str) == fl) = false := by simpa using hn3
    have z1 : (("__class__" : Str) == ("self" : Str)) = false := by decide
    simp only [badScope, List.lookup, z, z1]
    rfl
  obtain ⟨cd, ecd, ehd, etl⟩ := T.cdt
  refine ks_codeAny_call_defAt (fd := fnX "__init__" q prm (badBody fl p0 p1 p2 p3 p4 p5 p6 p7 p8 p9) (badScope fl) [("__class__", cc)] dV kV doc pm an (.ref cda) ct) (body := badBody fl p0 p1 p2 p3 p4 p5 p6 p7 p8 p9) (binds := [("self", .ref e), (fl, u)]) hroom (kin _ _ lkf) rfl (hM.nolimit.keeps bk) (codeRec_of kin hcode) rfl (hb _ [.ref e, u] kin rfl) ?_ ?_ ?_ rfl rfl rfl
  · intro x hx
    simp only [fnX, badScope, List.mem_cons, List.not_mem_nil, or_false] at hx
    rcases hx with rfl | rfl | rfl | rfl <;> simp
  · intro x hx
    simp only [List.mem_cons, List.not_mem_nil, or_false] at hx
    rcases hx with rfl | rfl
    · exact k1
    · exact k2
  intro h1 ns1 kp1
  have bk1 : ∀ b o, base.get? b = some o → h1.get? b = some o := fun b o z => kp1 b o (bk b o z)
  have kin1 : K.In h1 := hM.kin.keeps bk1
  have he1 := kp1 _ _ he
  have at1 : InstAt h1 e (PySem.HandSPX.excO C t0) C none := ⟨he1, rfl, rfl, trivial⟩
  obtain ⟨oD, hD1, hD2⟩ : ∃ oD, h1.get? C = some oD ∧ oD.data = .cls cd := by
    unfold clsIn at ecd
    split at ecd
    · rename_i c d cd' sl ho
      cases ecd
      exact ⟨_, kin1 _ _ ho, rfl⟩
    · cases ecd
  obtain ⟨mb, hb1, hb2⟩ := hM.blt
  have m1 : (fun x => ([("self", Value.ref e), (fl, u)] : List (Str × Value)).reverse.lookup x) ("self" : Str) = some (.ref e) := by
    have z : (("self" : Str) == fl) = false := by simpa using hn1
    show ([(fl, u), ("self", Value.ref e)] : List (Str × Value)).lookup ("self" : Str) = _
    simp [List.lookup, z]
  have m2 : (fun x => ([("self", Value.ref e), (fl, u)] : List (Str × Value)).reverse.lookup x) fl = some u := by
    show ([(fl, u), ("self", Value.ref e)] : List (Str × Value)).lookup fl = _
    simp [List.lookup]
  obtain ⟨ar, har, earg⟩ : ∃ ar, (prm.posonlyargs ++ prm.args).head? = some ar ∧ ar.arg = ("self" : Str) := by
    cases z : (prm.posonlyargs ++ prm.args).head? with
    | none => rw [z] at hself; cases hself
    | some ar => rw [z] at hself; exact ⟨ar, rfl, Option.some.inj hself⟩
  have kmd : Looks (model P w) h1 (mroOf (.ref C)) cd.mro := (looks_clsIn kin1 ecd).andThen .now
  refine ks_wpAt_execs_cons (ks_wpAt_Expr_any (bad_call hline (by rfl) fun pl => ks_wpAt_super_base (ar := ar) (cc := cda) k3 k4 (by decide) rfl (kin1 _ _ lkf) rfl har rfl (kin1 _ _ lkd) rfl hvs hfile htop ?_))
  refine ks_loadName_global rfl k3 (loadGlobal_builtin (hM.glob.keeps bk1) hsup (hb1.keeps bk1) ((hb2 _ (by decide)).trans (by rfl)) ⟨rfl, ?_⟩)
  refine wpAny_loadName_free rfl k4 rfl ⟨_, kin1 _ _ lkc, rfl⟩ ?_
  rw [earg]
  refine wpAny_loadName_local rfl k1 ns1 m1 ?_
  refine ks_wpAny_isType_cls hD1 hD2 ⟨rfl, ?_⟩
  refine ks_wpAny_call_super hD1 hD2 he1 rfl (fun c z => by cases z) (looks_mroIn kin1 T.own) fun h2 hso kp2 => ?_
  have bk2 : ∀ b o, base.get? b = some o → h2.get? b = some o := fun b o z => kp2 b o (bk1 b o z)
  have kin2 : K.In h2 := hM.kin.keeps bk2
  have he2 := kp2 _ _ he1
  have at2 : InstAt h2 e (PySem.HandSPX.excO C t0) C none := ⟨he2, rfl, rfl, trivial⟩
  have hsup2 : alongIn K "__init__" ((cd.mro.dropWhile (· != .ref C)).drop 1) = some (some (.builtin "Exception.__init__")) := by
    have z := T.sup
    unfold ks_superIn at z
    rw [ecd] at z
    exact z
  refine kxs_getMethod kxs_Exception hso (looks_opaque kin2 T.opq) (kmd.keeps kp2) rfl kin2 hsup2 (at2.type.andThen (looks_subIn kin2 T.exE)) (ks_ne kin2 at2 ecd) (by decide) ?_
  have kp3 : ∀ b o, h2.get? b = some o → (h2.push (kxs_mw "Exception.__init__" e)).get? b = some o := fun b o z => Heap.get?_push_of_some _ z
  have ns3 := ns1.at fun o z => kp3 _ o (kp2 _ o z)
  refine PySem.ESX.callWith_bound (x := e) (rest := []) ?_
  refine PySem.Calls.spliced_cons (PySem.ESX.ldL ns3 m2 ?_ rfl k2 hn4)
  refine PySem.Calls.spliced_nil ⟨Heap.get?_push_size _ rfl, ?_⟩
  obtain ⟨nm, N, qn, bs, bm, hdct, sn, sub, ab, col, dd, c0, c1, c2, c3, c5, hC, hbm⟩ := excInit_of kin2 T.cls
  refine PySem.ESX.call_bw (kp3 _ _ hC) (kp3 _ _ he2) (Heap.get?_push_size _ rfl) (by simp [sizeLine_eq]) fun h4 t4 kp4 he4 => ?_
  have kp5 : ∀ b o, b ≠ e → h1.get? b = some o → h4.get? b = some o := fun b o n z => kp4 b o n (kp3 _ o (kp2 _ o z))
  have bn : ∀ b o, base.get? b = some o → b ≠ e := fun b o z n => by
    subst n
    rw [hbe] at z
    cases z
  have kin4 : K.In h4 := hM.kin.keeps fun b o z => kp5 b o (bn b o z) (bk1 b o z)
  have ne : hp.objs.size ≠ e := Nat.ne_of_gt (Heap.lt_size he)
  have ns4 : h4.Ns hp.objs.size (fun x => ([("self", Value.ref e), (fl, u)] : List (Str × Value)).reverse.lookup x) := ns3.at fun o z => kp4 _ o ne z
  refine ks_wpAt_execs_cons (PySem.wpAt_of_wpAny (plainObj_wpAny_Assign_Attribute (PySem.ESX.ldL ns4 m2 (PySem.ESX.ldL ns4 m1 ?_ rfl k1) rfl k2 hn4)))
  refine set_plain kin4 (ox := { cls := .ref C, data := .fields #[.ref t4, .none, .none, .none, .bool false, .none] }) (od := none) ⟨he4, rfl, rfl, trivial⟩ T.sa ?_
  refine bad_store kin4 he4 ecd etl ehd T.exO T.no fun h6 tk6 dx kp6 hdx hne he6 hns6 => ?_
  refine PySem.wpAt_of_wpAny (wpAny_execs_nil ?_)
  refine hq h6 _ dx t4 (fun b o n z => kp6 b o n (kp5 b o n (kp1 b o z))) (Nat.le_trans (Nat.le_of_lt ns4.lt) hdx) he6 hns6
end

/-! ### C(e): an exception is made -/
section
variable {X : Cx} {x : Str} {p pos : Pos} {e : Expr} {C fI : Addr} {fl : Str} {fd : FuncData}
theorem exo_frz' {a C b : Addr} {d : Option Addr} {o : Obj} {u : HO} {H : Hp} (ha : H a = some (exo a C d)) (hb : H b = some (.frz o u)) : b ≠ a := at_ne ha hb exo_frz
/-- what C(e) makes: its dict, with the one field -/
theorem pmk_bad {ta : TA} (T : BadI X.prog X.K C fI fl fd) (hb : Binds X.K fd ["self", fl] []) (hsup : X.mg "super" = none) (hnm : ("self" : Str) ≠ fl ∧ ("super" : Str) ≠ fl ∧ ("__class__" : Str) ≠ fl ∧ (fl == ("__debug__" : Str)) = false)
    (hr : Room 1 X.A) (hm : X.mg x = some (.ref C)) (ha : PA X [e] ta) (hg : Gl X x := by rfl) (hdb : (x == ("__debug__" : Str)) = false := by decide) (hst : starEach [e] X.env = [(false, eval e X.env)] := by rfl) :
    PMk X (.Call (.Name x p) [e] [] pos) (fun σ H Q => ta σ H fun vs H1 => ∃ y, vs = [y] ∧ ∀ d, H1 d = none → Q (.ref C) (some d) (upd H1 d (.xd [(fl, y)]))) := by
  intro pins s σ H Q I h
  refine wpAny_Call_Name_kw (ld_glob I hg hm ?_ hdb)
  refine PySem.W.callWith_K (h₀ := X.base) (rest := []) I.ok.mod.kin T.kC (thn (ha.run pos pins s σ H _ I h) fun us s1 ⟨vs, H1, I1, r1, y, ev, q1⟩ => ⟨I1.kIn, ?_⟩) hst (by rfl)
  subst ev
  cases r1 with
  | @cons _ u _ _ ry rn =>
    cases rn
    show wpAny _ _ (call (.ref C) [u]) _ _ _
    obtain ⟨hp, g, dr, tk, os⟩ := s1
    obtain ⟨nm, N, qn, bs, bm, hdct, sn, sub, ab, col, dd, c0, c1, c2, c3, c5, hC, hbm⟩ := PySem.W.excInit_of I1.kIn T.cls
    have hsz : hp.objs.size ≤ hp.objs.size + 1 := Nat.le_succ _
    have hn : H1 (hp.objs.size + 1) = none := I1.hok.fresh hsz
    have kk : ∀ b o, hp.get? b = some o → ((hp.push (PySem.W.kdv_tup [u])).push (PySem.HandSPX.excO C hp.objs.size)).get? b = some o := fun b o e => Heap.get?_push_of_some _ (Heap.get?_push_of_some _ e)
    have hget : ((hp.push (PySem.W.kdv_tup [u])).push (PySem.HandSPX.excO C hp.objs.size)).get? (hp.objs.size + 1) = some (PySem.HandSPX.excO C hp.objs.size) := by heap_get
    have I2 : Inv X pins σ (upd H1 (hp.objs.size + 1) (exo (hp.objs.size + 1) C none)) ⟨(hp.push (PySem.W.kdv_tup [u])).push (PySem.HandSPX.excO C hp.objs.size), g, dr, tk, os⟩ :=
      I1.laid (t' := tk) (a := hp.objs.size + 1) (o := exo (hp.objs.size + 1) C none) (h' := (hp.push (PySem.W.kdv_tup [u])).push (PySem.HandSPX.excO C hp.objs.size)) kk hsz (exo_ok hget)
    have bsn : X.base.get? (hp.objs.size + 1) = none := by
      cases z : X.base.get? (hp.objs.size + 1) with
      | none => rfl
      | some o =>
        have z1 := Heap.lt_size z
        have z2 := I1.ok.bsz
        have z3 : X.s_0.heap.objs.size ≤ hp.objs.size := I1.sz
        exact absurd (Nat.lt_of_lt_of_le z1 (Nat.le_trans z2 z3)) (by show ¬ (hp.objs.size + 1 < hp.objs.size); omega)
    have kin2 := I2.kIn
    refine wpAny_call (PySem.HandSPX.call_own F.excBase_Exception hbm hC (PySem.W.looks_findIn I1.kIn T.ini) (fun self => PySem.W.bind_fn I1.kIn self T.tI) (by simp [sizeLine_eq])
      (bad_init T I1.ok.mod (fun b o z => kk b o (I1.bk b o z)) hsup bsn hb hnm (hr.make C [u] []).depth hget fun h' tk' dx t1 k' hdx hx hns => ?_))
    have hnd : H1 dx = none := I1.hok.fresh (Nat.le_trans (by rw [Heap.size_push, Heap.size_push]; exact Nat.le_trans (Nat.le_succ _) (Nat.le_succ _)) hdx)
    have dne : dx ≠ hp.objs.size + 1 := fun z => by
      rw [Heap.size_push, Heap.size_push, z] at hdx
      omega
    have nd : ∀ {b : Addr} {o : Obj}, ((hp.push (PySem.W.kdv_tup [u])).push (PySem.HandSPX.excO C hp.objs.size)).get? b = some o → b ≠ dx := fun {b o} z => Nat.ne_of_lt (Nat.lt_of_lt_of_le (Heap.lt_size z) hdx)
    generalize ea : hp.objs.size + 1 = a at *
    have Hd : upd H1 a (exo a C none) dx = none := by rw [upd_ne dne]; exact hnd
    have Ha : upd H1 a (exo a C none) a = some (exo a C none) := upd_same
    have un : Un (frs X.stack) [] (upd H1 a (exo a C none)) (upd (upd (upd H1 a (exo a C none)) dx (exd dx [(fl, y)])) a (exo a C (some dx))) ((hp.push (PySem.W.kdv_tup [u])).push (PySem.HandSPX.excO C hp.objs.size)) h' := by
      have na : ∀ {b : Addr}, upd H1 a (exo a C none) b = none → b ≠ a := fun {b} n z => by
        rw [z, Ha] at n
        cases n
      exact {
        keep := fun b o z n _ _ => k' b o (na n) z
        slot := fun b o z n _ _ => ⟨o.slots, k' b o (na n) z⟩
        free := fun b o z n _ => by rw [upd_ne (na n), upd_ne (nd z)]; exact n
        there := fun b o z _ => by
          by_cases hb : b = a
          · exact ⟨_, by rw [hb]; exact hx⟩
          · exact ⟨o, k' b o hb z⟩
        tups := fun b xs z => by rw [upd_ne (at_ne Ha z exo_tup), upd_ne (ne_of_none z Hd)]; exact z
        frzs := fun b o v z => by rw [upd_ne (at_ne Ha z exo_frz), upd_ne (ne_of_none z Hd)]; exact z
        tbls := fun b ps z => ⟨#[], by rw [upd_ne (at_ne Ha z exo_tbl), upd_ne (ne_of_none z Hd), z]; simp⟩ }
    have hok : HOk X.prog X.w (upd (upd (upd H1 a (exo a C none)) dx (exd dx [(fl, y)])) a (exo a C (some dx))) h' := fun b o z => by
      by_cases hb : b = a
      · subst hb
        rw [upd_same] at z
        cases z
        exact exo_ok hx
      · rw [upd_ne hb] at z
        by_cases hd : b = dx
        · subst hd
          rw [upd_same] at z
          cases z
          exact exd_ok hns (relO_put (fs := []) ry fun g => True.intro)
        · rw [upd_ne hd] at z
          exact (I2.hok b o z).stay (fun c v hc z2 => k' c v (by
              rcases hc with hc | hc
              · rw [hc]
                exact hb
              · exact at_ne Ha hc exo_own) z2)
            (fun c hc => by rw [upd_ne (at_ne Ha hc exo_own), upd_ne (ne_of_none hc Hd)]; exact hc) (fun c xs hc => by rw [upd_ne (at_ne Ha hc exo_tup), upd_ne (ne_of_none hc Hd)]; exact hc)
    refine ⟨rfl, mk_end (raises_own T.exC T.tyC) I1 (by omega) kk un hok rfl I1.bare upd_same (by rw [upd_ne dne]; exact upd_same) hnd ?_⟩
    have q2 := q1 dx hnd
    have e3 : upd (del (upd (upd (upd H1 a (exo a C none)) dx (exd dx [(fl, y)])) a (exo a C (some dx))) a) dx (.xd [(fl, y)]) = upd H1 dx (.xd [(fl, y)]) := by
      funext b
      by_cases hd : b = dx
      · rw [hd, upd_same, upd_same]
      · rw [upd_ne hd, upd_ne hd]
        by_cases hb : b = a
        · rw [hb, del_same, hn]
        · rw [del_ne hb, upd_ne hb, upd_ne hd, upd_ne hb]
    rw [e3]
    exact q2
end
end TL
end
section
set_option maxRecDepth 100000
set_option maxHeartbeats 2000000
/-! TY: what may raise, over tree values: expressions, statements, try. -/
namespace TL
open PySem PySem.Spec PyProof.Rows L2

/-- an exception that leaves: its class, its fields, the slots, the heap -/
abbrev XDX := Addr → List (Str × D) → En → Mp → Prop
def xW (K : PySem.W.Frag) (H F : Hp) (M : Mp) (EX : XDX) : WX := fun cls d σ H' => ∃ F' M' ρ' C dx vfs fs, cls = .ref C ∧ d = some dx ∧ F' dx = some (.xd vfs) ∧ Stp K H F M H' F' M' ∧ Sim K H' F' M' σ ρ' ∧ RepF K F' vfs fs ∧ EX C fs ρ' M'
theorem xW.back {K : PySem.W.Frag} {H F H1 F1 : Hp} {M M1 : Mp} {EX : XDX} {c : Value} {d : Option Addr} {σ : SS} {H' : Hp} (t : Stp K H F M H1 F1 M1) (h : xW K H1 F1 M1 EX c d σ H') : xW K H F M EX c d σ H' :=
  let ⟨F', M', ρ', C, dx, vfs, fs, h1, h2, h3, h4, h5⟩ := h; ⟨F', M', ρ', C, dx, vfs, fs, h1, h2, h3, t.trans h4, h5⟩
theorem xW.imp {K : PySem.W.Frag} {H F : Hp} {M : Mp} {EX EX' : XDX} {c : Value} {d : Option Addr} {σ : SS} {H' : Hp} (q : ∀ C fs ρ M, EX C fs ρ M → EX' C fs ρ M) (h : xW K H F M EX c d σ H') : xW K H F M EX' c d σ H' :=
  let ⟨F', M', ρ', C, dx, vfs, fs, h1, h2, h3, h4, h5, h6, h7⟩ := h; ⟨F', M', ρ', C, dx, vfs, fs, h1, h2, h3, h4, h5, h6, q _ _ _ _ h7⟩
/-- an expression that may raise -/
structure WEX (X : Cx) (e : Expr) (ρ : En) (M : Mp) (Q : DQ) (EX : XDX) : Prop where
  run : ∀ (pins : Pins) (s : Shared) (σ : SS) (H F : Hp), Inv X pins σ H s → Sim X.K H F M σ ρ → Takes X (xW X.K H F M EX) → wpAny (model X.prog X.w) X.A (eval e X.env) (TEnd X pins σ H F M Q) X.xe s
/-- a block, a statement that may raise -/
structure WSsX (X : Cx) (sts : List Stmt) (ρ : En) (M : Mp) (E : TEs) (EX : XDX) : Prop where
  run : ∀ (pins : Pins) (s : Shared) (σ : SS) (H F : Hp), Inv X pins σ H s → Sim X.K H F M σ ρ → Takes X (xW X.K H F M EX) → wpAny (model X.prog X.w) X.A (execs sts X.env) (SP X pins (E.ends X H F M)) X.xe s
structure WSX (X : Cx) (st : Stmt) (ρ : En) (M : Mp) (E : TEs) (EX : XDX) : Prop where
  run : ∀ (pins : Pins) (s : Shared) (σ : SS) (H F : Hp), Inv X pins σ H s → Sim X.K H F M σ ρ → Takes X (xW X.K H F M EX) → wpAny (model X.prog X.w) X.A (exec st X.env) (SP X pins (E.ends X H F M)) X.xe s
section
variable {X : Cx} {ρ : En} {M : Mp} {Q : DQ} {EX : XDX} {E : TEs} {e a b c : Expr} {st : Stmt} {sts rest : List Stmt} {pos pos' : Pos} {k : Nat} {f C : Addr} {fd : FuncData} {ps : List Str} {x n : Str} {p : Pos} {es : List Expr}
theorem tk_back {H F H1 F1 : Hp} {M1 : Mp} (tk : Takes X (xW X.K H F M EX)) (t : Stp X.K H F M H1 F1 M1) : Takes X (xW X.K H1 F1 M1 EX) := tk.imp fun _ _ _ _ h => h.back t
theorem WE.imp {Q' : DQ} (h : WE X e ρ M Q) (q : ∀ d M', Q d M' → Q' d M') : WE X e ρ M Q' := ⟨fun pins s σ H F I S => thn (h.run pins s σ H F I S) fun _ _ z => z.imp q⟩
theorem WEX.of (h : WE X e ρ M Q) : WEX X e ρ M Q EX := ⟨fun pins s σ H F I S _ => h.run pins s σ H F I S⟩
theorem WSsX.of (h : WSs X sts ρ M E) : WSsX X sts ρ M E EX := ⟨fun pins s σ H F I S _ => h.run pins s σ H F I S⟩
theorem WSX.of (h : WS X st ρ M E) : WSX X st ρ M E EX := ⟨fun pins s σ H F I S _ => h.run pins s σ H F I S⟩
theorem WSsX.cons (h : WSX X st ρ M { E with nx := fun ρ' M' => WSsX X rest ρ' M' E EX } EX) : WSsX X (st :: rest) ρ M E EX := by
  refine ⟨fun pins s σ H F I S tk => ?_⟩
  refine wpAny_execs_cons (thn (h.run pins s σ H F I S tk) fun f s1 q => ?_)
  cases f with
  | next =>
    obtain ⟨σ', H', I', F', M', ρ', t, S', q⟩ := q
    exact thn (q.run pins s1 σ' H' F' I' S' (tk_back tk t)) fun _ _ q => SP.back t q
  | ret v => exact q
  | brk => exact q
  | cont => exact q
/-- .. the first one doesn't raise -/
theorem WSsX.then (h : WS X st ρ M { E with nx := fun ρ' M' => WSsX X rest ρ' M' E EX }) : WSsX X (st :: rest) ρ M E EX := .cons (.of h)
theorem WSsX.one (h : WSX X st ρ M E EX) : WSsX X [st] ρ M E EX := .cons ⟨fun pins s σ H F I S tk => thn (h.run pins s σ H F I S tk) fun f s1 q => SP.imp q (fun _ _ ⟨a, b, c, d, e, r⟩ => ⟨a, b, c, d, e, .of (.done r)⟩) (fun _ _ q => q) (fun _ _ q => q) (fun _ _ q => q)⟩
theorem WSX.ite {sa sb : List Stmt} (h : WT X c ρ M fun k M' => (k = true → WSsX X sa ρ M' E EX) ∧ (k = false → WSsX X sb ρ M' E EX)) : WSX X (.If c sa sb pos) ρ M E EX := by
  refine ⟨fun pins s σ H F I S tk => ?_⟩
  refine wpAny_If (thn (h.run pins s σ H F I S) fun d s1 ⟨H1, F1, M1, I1, t1, q1, q2⟩ => ?_)
  cases d with
  | true => exact thn ((q1 rfl).run pins s1 σ H1 F1 I1 (S.step t1) (tk_back tk t1)) fun _ _ q => SP.back t1 q
  | false => exact thn ((q2 rfl).run pins s1 σ H1 F1 I1 (S.step t1) (tk_back tk t1)) fun _ _ q => SP.back t1 q
theorem WSX.ret (h : WEX X e ρ M E.rt EX) : WSX X (.Return (some e) pos) ρ M E EX :=
  ⟨fun pins s σ H F I S tk => wpAny_Return_some (thn (h.run pins s σ H F I S tk) fun v s1 ⟨x, H1, F1, M1, d, I1, r1, t1, p1, q⟩ => ⟨x, σ, H1, I1, r1, F1, M1, d, t1, p1, q⟩)⟩
theorem WSX.set (i : Nat) {pos' : Pos} (h : WEX X e ρ M (fun x M1 => E.nx (ρ.set i (some x)) M1) EX) (hN : X.N.Nodup) (hi : X.N[i]? = some n := by rfl) (hx : Loc X.env.scope n := by first | exact .inl rfl | exact .inr rfl)
    (hs : swapsWith e (some (.Name n pos')) pos.line X.env = pure false := by rfl) (hf : X.fn n = true ∨ X.env.scope.names.lookup n = some .local := by first | exact .inl rfl | exact .inr rfl) : WSX X (.Assign [.Name n pos'] e pos) ρ M E EX := by
  refine ⟨fun pins s σ H F I S tk => ?_⟩
  refine wpAny_Assign_Name (thn (h.run pins s σ H F I S tk) fun v s1 ⟨y, H1, F1, M1, d, I1, r1, t1, p1, q⟩ => ?_) hs
  exact store_ok I1 hN hi hx r1 (fun s2 I2 => ⟨_, H1, I2, F1, M1, _, t1, (S.step t1).set i p1, q⟩) hf
theorem WSX.expr (h : WEX X e ρ M (fun _ M' => E.nx ρ M') EX) (hs : swapsWith e none pos.line X.env = pure false := by rfl) : WSX X (.Expr e pos) ρ M E EX :=
  ⟨fun pins s σ H F I S tk => wpAny_Expr_any (thn (h.run pins s σ H F I S tk) fun v s1 ⟨x, H1, F1, M1, d, I1, r1, t1, p1, q⟩ => ⟨σ, H1, I1, F1, M1, ρ, t1, S.step t1, q⟩) I.quiet hs⟩
theorem WEX.ife (h : WT X c ρ M fun k M1 => (k = true → WEX X a ρ M1 Q EX) ∧ (k = false → WEX X b ρ M1 Q EX)) : WEX X (.IfExp c a b pos) ρ M Q EX := by
  refine ⟨fun pins s σ H F I S tk => ?_⟩
  refine wpAny_IfExp (thn (h.run pins s σ H F I S) fun d s1 ⟨H1, F1, M1, I1, t1, q1, q2⟩ => ?_)
  cases d with
  | true => exact thn ((q1 rfl).run pins s1 σ H1 F1 I1 (S.step t1) (tk_back tk t1)) fun _ _ e => e.back t1
  | false => exact thn ((q2 rfl).run pins s1 σ H1 F1 I1 (S.step t1) (tk_back tk t1)) fun _ _ e => e.back t1
/-- raise C(e) -/
theorem WSX.raise {fI : Addr} {fl : Str} (hc : X.calm = true) (T : BadI X.prog X.K C fI fl fd) (hb : Binds X.K fd ["self", fl] []) (hsup : X.mg "super" = none) (hnm : ("self" : Str) ≠ fl ∧ ("super" : Str) ≠ fl ∧ ("__class__" : Str) ≠ fl ∧ (fl == ("__debug__" : Str)) = false)
    (hr : GRoom 1 X.A) (hm : X.mg x = some (.ref C)) (h : WE X e ρ M fun y M1 => EX C [(fl, y)] ρ M1) (hg : Gl X x := by rfl) (hdb : (x == ("__debug__" : Str)) = false := by decide) (hst : starEach [e] X.env = [(false, eval e X.env)] := by rfl) :
    WSX X (.Raise (some (.Call (.Name x p) [e] [] pos)) none pos') ρ M E EX := by
  refine ⟨fun pins s σ H F I S tk => ?_⟩
  have ha : WA X [e] ρ M fun ds M1 => ∃ y, ds = [y] ∧ EX C [(fl, y)] ρ M1 := .cons (h.imp fun y M1 q => .nil ⟨y, rfl, q⟩) hst
  refine (ps_raise (W := xW X.K H F M EX) hc tk (pmk_bad T hb hsup hnm hr.room hm (lTA_ok (es := [e])) hg hdb hst)).run pins s σ H (E.ends X H F M) I ⟨F, M, ρ, _, S, ha, fun vs H1 F1 M1 ds t rp q => ?_⟩
  obtain ⟨y, rfl, q⟩ := q
  cases rp with
  | @cons v _ _ _ rv rp =>
    cases rp
    refine ⟨_, rfl, fun d hd => ?_⟩
    have t2 := Stp.new (o := .xd [(fl, v)]) t.good hd
    exact ⟨_, M1, ρ, C, d, _, _, rfl, rfl, upd_same, t.trans t2, (S.step t).step t2, .cons (t2.rep rv) .nil, q⟩
/-- a call that may raise -/
theorem WEX.call {XQ : XDQ} (hr : GRoom k X.A) (hm : X.mg x = some (.ref f)) (hk : PySem.W.keepIn X.K (.ref f) = true) (hb : Binds X.K fd ps []) (hx : ∀ C fs M', XQ C fs M' → EX C fs ρ M') (h : WA X (e :: es) ρ M fun xs M1 => TFn X.prog X.w X.K X.mg X.base k f fd ps xs M1 Q XQ)
    (hg : Gl X x := by rfl) (hdb : (x == ("__debug__" : Str)) = false := by decide) (he : starEach (e :: es) X.env = (false, eval e X.env) :: starEach es X.env := by rfl) (hpl : (backTo pos (starEach es X.env)).any (·.1) = false := by rfl) :
    WEX X (.Call (.Name x p) (e :: es) [] pos) ρ M Q EX := by
  refine ⟨fun pins s σ H F I S tk => ?_⟩
  refine wpAny_Call_Name_kw (ld_glob I hg hm ?_ hdb)
  refine PySem.W.callWith_K (h₀ := X.base) I.ok.mod.kin hk (thn (h.run pos pins s σ H F I S) fun us s1 ⟨vs, H1, F1, M1, ds, I1, r, t, rp, q⟩ => ⟨I1.kIn, ?_⟩) he hpl
  have hl : (us ++ []).length = ps.length := by rw [List.append_nil, ← r.length, rp.length]; exact q.len
  have b := hb s1 us I1.kIn hl
  rw [List.append_nil] at b
  refine wpAny_call (codeAny_mono (q.run X.A X.stack s1 H1 F1 ⟨us, []⟩ us vs hr I1.env0 b r t.good rp) fun r s' hq => ?_)
  cases r with
  | error e =>
    refine tk e s' (XE.of_call I1 (fun cls d H' ⟨C, dx, F', M', vfs, fs, h1, h2, h3, t', rp', q'⟩ => ?_) hq)
    exact ⟨F', M', ρ, C, dx, vfs, fs, h1, h2, h3, t.trans t', (S.step t).step t', rp', hx _ _ _ q'⟩
  | ok fl =>
    cases fl with
    | ret u => exact (call_back I1 hq).back t
    | next => exact False.elim hq
    | brk => exact False.elim hq
    | cont => exact False.elim hq
/-- .. by keywords -/
theorem WEX.callKw {XQ : XDQ} {ks : List Str} {kws : List Keyword} (b : Bool) (hr : GRoom k X.A) (hm : X.mg x = some (.ref f)) (hk : PySem.W.keepIn X.K (.ref f) = true) (hb : KwB fd ps ks b) (hl : ps.length = ks.length) (hx : ∀ C fs M', XQ C fs M' → EX C fs ρ M')
    (h : WK X kws ρ M fun xs M1 => TFn X.prog X.w X.K X.mg X.base k f fd ps (turn b xs) M1 Q XQ)
    (hg : Gl X x := by rfl) (hall : (backToKw pos (keywordEach kws X.env)).all (·.1.isSome) = true := by rfl) (hks : (backToKw pos (keywordEach kws X.env)).filterMap (·.1) = ks := by rfl) (hdb : (x == ("__debug__" : Str)) = false := by decide)
    (hpl : ((backTo pos (starEach [] X.env)).any (·.1) || (backToKw pos (keywordEach kws X.env)).any (·.1.isNone)) = false := by rfl) : WEX X (.Call (.Name x p) [] kws pos) ρ M Q EX := by
  refine ⟨fun pins s σ H F I S tk => ?_⟩
  refine wpAny_Call_Name_kw (ld_glob I hg hm ?_ hdb)
  refine PySem.W.callWith_KW0 (h₀ := X.base) I.ok.mod.kin hk hall ?_ hpl
  refine thn (h.run pos pins s σ H F I S) fun ws s1 ⟨zs, H1, F1, M1, ds, I1, rz, t, rp, q⟩ => ⟨I1.kIn, ?_⟩
  rw [hks]
  have hw : ws.length = ks.length := by rw [← rz.length, rp.length, ← turn_len b ds, q.len, hl]
  refine wpAny_call (codeAny_mono (q.run X.A X.stack s1 H1 F1 ⟨[], ks.zip ws⟩ _ _ hr I1.env0 (hb s1 ws hw) (Vals.turn b rz) t.good (Reps.turn b rp)) fun r s' hq => ?_)
  cases r with
  | error e =>
    refine tk e s' (XE.of_call I1 (fun cls d H' ⟨C, dx, F', M', vfs, fs, h1, h2, h3, t', rp', q'⟩ => ?_) hq)
    exact ⟨F', M', ρ, C, dx, vfs, fs, h1, h2, h3, t.trans t', (S.step t).step t', rp', hx _ _ _ q'⟩
  | ok fl =>
    cases fl with
    | ret u => exact (call_back I1 hq).back t
    | next => exact False.elim hq
    | brk => exact False.elim hq
    | cont => exact False.elim hq
end

/-! ### a def that may raise -/
section
variable {P : Program} {w : World} {K : PySem.W.Frag} {mg : Str → Option Value} {base : Heap} {k : Nat} {f : Addr} {fd : FuncData} {ps : List Str} {ds : List D} {M : Mp} {Q : DQ} {XQ : XDQ}
variable {x qual : Str} {params : Arguments} {body : List Stmt} {scope : Scope} {N : List Str}
theorem TFn.ofX (Fd : FunD K x qual params body scope [] [] f fd) (Sc : FnScope N ps scope) (hl : ds.length = ps.length)
    (hb : ∀ (cdv : Value) (A : Around) (outer : List Env) (s : Shared) (H F : Hp), GRoom k (A.deeper (envOfC qual scope s.heap.objs.size f cdv)) →
      WSsX (cxOf (L2.CX P w) P w K mg base N qual scope f cdv A outer s H (XEnd K H F M XQ)) body (startD N ds) M { nx := fun _ M' => Q .non M', rt := Q } fun C fs _ M' => XQ C fs M') :
    TFn P w K mg base (k + 1) f fd ps ds M Q XQ := by
  obtain ⟨oc, od, dV, kV, doc, pm, an, cdv, ct, osl, rfl, lk, hcd, _, _⟩ := Fd.ex
  refine ⟨hl, fun A outer s H F args us vs hr e0 hbd r g rp => ?_⟩
  have KX : K.In s.heap := e0.mod.kin.keeps fun b o e => (e0.bs b o e).1
  have lim : s.heap.NoLimit := e0.mod.nolimit.keeps fun b o e => (e0.bs b o e).1
  have hk : ∀ y ∈ ps.zip us, scope.names.lookup y.1 = some .local ∨ (scope.names.lookup y.1 = some .cell ∧ ((cellsFrom (s.heap.objs.size + 1) scope.names []).lookup y.1).isSome = true) := by
    rintro ⟨n, v⟩ hy
    rcases Sc.par n (List.of_mem_zip hy).1 with q | q
    · exact .inl q
    · exact .inr ⟨q, PySem.W.cellsFrom_some _ _ _ (.inl q)⟩
  refine codeAny_call_function hr.room.depth (KX _ _ lk) rfl Sc.co Sc.gen rfl (PySem.W.codeRec_of KX hcd) (hbd _ _ _ _ (wpAny_newFunctionEnv_cells Sc.kind hk fun env he s1 x => ?_))
  subst he
  refine ⟨lim.keeps x.toInCall.keep, codeAny_func ?_⟩
  have I : Inv (cxOf (L2.CX P w) P w K mg base N qual scope f cdv A outer s H (XEnd K H F M XQ)) [] (L2.start N vs) H s1 := inv_start Sc hr.room.hd e0 (rp.length.trans hl) r x
  have tk : Takes (cxOf (L2.CX P w) P w K mg base N qual scope f cdv A outer s H (XEnd K H F M XQ)) (xW K H F M fun C fs _ M' => XQ C fs M') :=
    (takes_of rfl rfl rfl rfl).imp fun cls d σ H' ⟨F', M', ρ', C, dx, vfs, fs, h1, h2, h3, t, _, rf, q⟩ => ⟨C, dx, F', M', vfs, fs, h1, h2, h3, t, rf, q⟩
  refine thn ((hb cdv A outer s H F (hr.deeper _)).run [] s1 (L2.start N vs) H F I (start_sim g rp) tk) fun fl s' hs => ?_
  cases fl with
  | ret u =>
    obtain ⟨v, σ', H', J, rv, F', M', d, t, rp', q⟩ := hs
    exact ⟨v, H', J.os, J.bare, J.base, J.hok, rv, F', M', d, t, rp', q⟩
  | next =>
    obtain ⟨σ', H', J, F', M', ρ', t, S', q⟩ := hs
    exact ⟨.non, H', J.os, J.bare, J.base, J.hok, rfl, F', M', .non, t, .non, q⟩
  | brk =>
    obtain ⟨_, _, _, _, _, _, _, _, q⟩ := hs
    exact False.elim q
  | cont =>
    obtain ⟨_, _, _, _, _, _, _, _, q⟩ := hs
    exact False.elim q
end

/-! ### try .. except X as n -/
theorem Sim.unset {K : PySem.W.Frag} {H F : Hp} {M : Mp} {σ : SS} {ρ : En} (S : Sim K H F M σ ρ) (i : Nat) : Sim K H F M (σ.set i none) (ρ.set i none) := by
  refine ⟨S.good, fun j e h => ?_, by rw [List.length_set, List.length_set]; exact S.len⟩
  by_cases hj : i = j
  · subst hj
    by_cases hi : i < ρ.length
    · rw [List.getElem?_set_self hi] at h; cases h
    · rw [List.getElem?_eq_none (by rw [List.length_set]; omega)] at h; cases h
  · rw [List.getElem?_set_ne hj] at h
    obtain ⟨u, h1, h2⟩ := S.slot j e h
    exact ⟨u, by rw [List.getElem?_set_ne hj]; exact h1, h2⟩
section
variable {X : Cx} {ρ : En} {M : Mp} {EX : XDX} {E : TEs} {body suite : List Stmt} {b₀ : Stmt} {pos pos' np : Pos} {L : Addr} {x n : Str}
theorem WS.tryAs (i : Nat) (hc : Names X x (.ref L)) (hN : X.N.Nodup) (h : ∀ pn xe, WSsX (X.tr pn xe) body ρ M E EX)
    (hm : ∀ C fs ρ' M', EX C fs ρ' M' → PySem.W.exmOne X.K (.ref C) (.ref L) = some true ∧ ∀ a dx oe pn, Zc (.ref C) (some dx) oe → (∃ vs, oe.data = .fields vs) →
      WSs (X.suite a ((a, oe) :: pn)) (b₀ :: suite) (ρ'.set i (some (.xn a dx fs))) M' { nx := fun ρ2 M2 => E.nx (ρ2.set i none) M2, rt := E.rt, bk := fun ρ2 M2 => E.bk (ρ2.set i none) M2, ct := fun ρ2 M2 => E.ct (ρ2.set i none) M2 })
    (hs : X.stack = X.env :: X.outer := by rfl) (hf : X.env.frame = some X.env.locals := by rfl) (hi : X.N[i]? = some n := by rfl) (hln : X.env.kindOf n = some .local := by rfl) :
    WS X (.Try body [.ExceptHandler (some (.Name x np)) (some n) (b₀ :: suite) pos'] [] [] pos) ρ M E := by
  refine ⟨fun pins s σ H F I S => ?_⟩
  let tb : WX → TS := fun W D σ H => ∃ F M ρ E EX, Sim X.K H F M σ ρ ∧ (∀ pn xe, WSsX (X.tr pn xe) body ρ M E EX) ∧ (∀ c d σ' H', xW X.K H F M EX c d σ' H' → W c d σ' H') ∧
    (∀ σ' H', NEnd X H F M E.nx σ' H' → D.nx σ' H') ∧ (∀ v H', REnd X H F M E.rt v H' → D.rt v H') ∧ (∀ σ' H', NEnd X H F M E.bk σ' H' → D.bk σ' H') ∧ (∀ σ' H', NEnd X H F M E.ct σ' H' → D.ct σ' H')
  let ts : Addr → Value → Option Addr → TS := fun a cls d D σ H => ∃ F M ρ E, Sim X.K H F M σ ρ ∧ (∀ oe pn, Zc cls d oe → (∃ vs, oe.data = .fields vs) → WSs (X.suite a ((a, oe) :: pn)) (b₀ :: suite) ρ M E) ∧
    (∀ σ' H', NEnd X H F M E.nx σ' H' → D.nx σ' H') ∧ (∀ v H', REnd X H F M E.rt v H' → D.rt v H') ∧ (∀ σ' H', NEnd X H F M E.bk σ' H' → D.bk σ' H') ∧ (∀ σ' H', NEnd X H F M E.ct σ' H' → D.ct σ' H')
  refine (ps_try_as (i := i) (c := .ref L) (tb := tb) (ts := ts) (Wout := fun _ _ _ _ => False) hs hf hN hi hln hc takes0 (fun W pn xe tk hp => ⟨fun pins s σ H D I ⟨F, M, ρ, E, EX, S, h, hW, h1, h2, h3, h4⟩ => ?_⟩)
    (fun a oe cls d pn hz hv => ⟨fun pins s σ H D I ⟨F, M, ρ, E, S, h, h1, h2, h3, h4⟩ => ?_⟩)).run pins s σ H (E.ends X H F M) I ⟨F, M, ρ, E, EX, S, h, ?_, fun _ _ q => q, fun _ _ q => q, fun _ _ q => q, fun _ _ q => q⟩
  · exact thn ((h pn xe).run pins s σ H F I S (tk.imp hW)) fun _ _ q => SP.imp q h1 h2 h3 h4
  · exact thn ((h oe pn hz hv).run pins s σ H F I S) fun _ _ q => SP.imp q h1 h2 h3 h4
  · rintro c d σ' H' ⟨F', M', ρ', C, dx, vfs, fs, rfl, rfl, hx, t, S', rf, q⟩
    obtain ⟨k1, k2⟩ := hm C fs ρ' M' q
    refine ⟨true, k1, fun _ a ha => ?_, fun z => by cases z⟩
    refine ⟨F', M', _, _, S'.set i (.xn (a := a) hx rf), fun oe pn hz hv => k2 a dx oe pn hz hv, ?_, ?_, ?_, ?_⟩
    · rintro σ2 H2 ⟨F2, M2, ρ2, t2, S2, q2⟩
      exact ⟨F2, M2, _, t.trans t2, S2.unset i, q2⟩
    · exact fun v H2 q2 => q2.back t
    · rintro σ2 H2 ⟨F2, M2, ρ2, t2, S2, q2⟩
      exact ⟨F2, M2, _, t.trans t2, S2.unset i, q2⟩
    · rintro σ2 H2 ⟨F2, M2, ρ2, t2, S2, q2⟩
      exact ⟨F2, M2, _, t.trans t2, S2.unset i, q2⟩
end
/-! ### what the suite reads -/
section
variable {X : Cx} {ρ : En} {M : Mp} {Q : DQ} {a dx C : Addr} {oe : Obj} {pn : Pins} {e : Expr} {n : Str} {pos : Pos}
/-- e.f -/
theorem WE.xf (T : XfC X.K C) (hno : PySem.W.findIn X.K (.ref C) n = some none) (hz : Zc (.ref C) (some dx) oe) (hf : ∃ vs, oe.data = .fields vs) (h : WE (X.suite a ((a, oe) :: pn)) e ρ M fun z M1 => ∃ fs d, z = .xn a dx fs ∧ fs.lookup n = some d ∧ Q d M1)
    (hb : attributeBase e n X.env (eval e X.env) = eval e X.env := by rfl) : WE (X.suite a ((a, oe) :: pn)) (.Attribute e n pos) ρ M Q := by
  refine .pe (pe_xf T hno hz hf (lTE_ok (X := X.suite a ((a, oe) :: pn)) (e := e)) hb) fun σ H F S => ⟨F, M, ρ, _, S, h, fun v H1 ⟨F1, M1, z, t, rp, fs, d, ez, l, q⟩ => ?_⟩
  subst ez
  cases rp with
  | xn hx rf =>
    obtain ⟨v', l', rv⟩ := rf.lookup l
    exact ⟨rfl, rfl, dx, _, v', rfl, t.good.sub _ _ hx, l', F1, M1, d, t, rv, q⟩
/-- isinstance(e, L) -/
theorem VC.isE {L : Addr} {fs : List (Str × D)} {b : Bool} (T : L2.ExcC X.K C) (hz : Zc (.ref C) (some dx) oe) (hf : ∃ vs, oe.data = .fields vs) (hk : PySem.W.kitOne X.K (.ref C) (.ref L) = some b) (h : Q (.bl b) M) :
    VC (X.suite a ((a, oe) :: pn)) (.builtin "isinstance") [.xn a dx fs, .ref L] M Q := by
  intro pins s σ H F vs us I R r1 p1
  cases p1 with
  | cons p1 p2 =>
    cases p2 with
    | cons p2 p3 =>
      cases p3
      cases p1 with
      | @xn _ _ vfs _ hx rf =>
        cases p2
        cases r1 with
        | cons r1 r2 =>
          cases r2 with
          | cons r2 r3 =>
            cases r3
            cases r1
            cases r2
            obtain ⟨hget, _⟩ := I.pin (a, oe) (List.mem_append.mpr (.inl List.mem_cons_self))
            obtain ⟨ws, hv⟩ := hf
            have hxd : ObjOk X.prog X.w H s.heap dx (.xd vfs) := I.hok dx _ (R.sub _ _ hx)
            obtain ⟨mA, hns, hr⟩ := hxd
            obtain ⟨od, ho, hl⟩ := lookIn_ns hns
            have J : PySem.W.InstAt s.heap a oe C (some od) := ⟨hget, hz.1, by unfold PySem.W.notCls; rw [hv] <;> rfl, by rw [hz.2]; exact ho⟩
            have hcl : (PySem.W.clsIn X.K C).isSome = true := by
              obtain ⟨cd, hc, _⟩ := PySem.W.any_some T.hd
              rw [hc]
              rfl
            exact PySem.W.kia_one (PySem.W.kitx_exc hcl T.hg T.hk T.hs T.ha T.hn T.ht T.hm) I.kIn J hk (fun z => nomatch z) fun tk => ⟨.bl b, H, F, M, _, I.kept (t' := tk) fun _ _ z => z, rfl, Stp.refl R, .bl b, h⟩
end
end TL
end
section
set_option maxRecDepth 100000
set_option maxHeartbeats 2000000
/-! TZ: list(zip(a, b)) of two tuples: each pair is kept, so zip makes a new one each time. -/
namespace ZL
open PySem PySem.W PySem.Calls PyProof.Rows
open PySem.Sem (wp)
abbrev zO (T : Addr) (f : Bool) (TI TO : Addr) : Obj := { cls := .type "zip", dict := none, data := .fields #[rawInt T, .bool f, .bool false, .ref TI, .ref TO], slots := #[] }
section
variable {prog : Program} {w : World} {A : Around} {E : Value → Shared → Prop} {s : Shared}
/-- the pair that it gave out lives on -/
theorem free_no {z TI TO T : Addr} {f : Bool} {oT : Obj} {Q : Bool → Shared → Prop} (hz : s.heap.get? z = some (zO T f TI TO)) (hT : s.heap.get? T = some oT)
    (h : ∀ h', h'.get? z = some (zO T true TI TO) → Heap.SameBut z s.heap h' → Q false { s with heap := h' }) : wpAny (model prog w) A (Builtin.SmallTypes.ownedTupleIsFree (.ref z)) Q E s := by
  unfold Builtin.SmallTypes.ownedTupleIsFree
  refine wpAny_bind (wpAny_field hz rfl (x := rawInt T) rfl ?_)
  show wpAny _ _ (loadIfAlive ((T : Int).toNat) >>= _) _ _ _
  rw [Int.toNat_natCast]
  refine wpAny_bind (kdx_alive hT ?_)
  simp only [Option.isNone_some, Bool.false_eq_true, if_false]
  refine wpAny_bind (wpAny_field hz rfl (x := .bool f) rfl ?_)
  cases f with
  | true =>
    rw [if_neg (show ¬ ((Value.bool true != Value.bool true) = true) from Bool.false_ne_true)]
    exact wpAny_pure (h _ hz (Heap.SameBut.refl _ _))
  | false =>
    rw [if_pos (show (Value.bool false != Value.bool true) = true from rfl)]
    exact wpAny_bind (wpAny_setField_rec hz (by simp) fun h' hz' hs' => wpAny_pure (h h' hz' hs'))

theorem out_item {z TI TO i1 i2 l1 l2 T : Addr} {k1 k2 : Nat} {xs ys : Array Value} {x y : Value} {f : Bool} {oT : Obj} {Q : Value → Shared → Prop} (D : ZipApart z TI TO i1 i2 l1 l2)
    (hz : s.heap.get? z = some (zO T f TI TO)) (hT : s.heap.get? T = some oT) (hTI : IsPair s.heap TI (.ref i1) (.ref i2))
    (h1 : s.heap.IsTupleIter i1 l1 k1) (h2 : s.heap.IsTupleIter i2 l2 k2) (hl1 : s.heap.IsTuple l1 xs) (hl2 : s.heap.IsTuple l2 ys) (hx : xs[k1]? = some x) (hy : ys[k2]? = some y)
    (hQ : ∀ h', h'.get? z = some (zO T true TI TO) → h'.IsTupleIter i1 l1 (k1 + 1) → h'.IsTupleIter i2 l2 (k2 + 1) → IsPair h' s.heap.objs.size x y → h'.objs.size = s.heap.objs.size + 1 →
      (∀ c o, c ≠ z → c ≠ i1 → c ≠ i2 → s.heap.get? c = some o → h'.get? c = some o) → Q (.ref s.heap.objs.size) { s with heap := h' }) :
    wpAny (model prog w) A (Builtin.«zip.__next__» ⟨[.ref z], []⟩) (fun fin s' => ∃ v, fin = .done (.ret v) ∧ Q v s') E s := by
  show wpAny _ _ (field (.ref z) 2 >>= _) _ _ _
  refine wpAny_bind (wpAny_field hz rfl (x := .bool false) rfl ?_)
  show wpAny _ _ (field (.ref z) 3 >>= _) _ _ _
  refine wpAny_bind (wpAny_field hz rfl (x := .ref TI) rfl ?_)
  refine wpAny_bind (wpAny_seqItems hTI rfl ?_)
  show wpAny _ _ (Builtin.SmallTypes.ownedTupleIsFree (.ref z) >>= _) _ _ _
  refine wpAny_bind (free_no hz hT fun ha hza sa => ?_)
  simp only [Bool.false_eq_true, if_false]
  rw [← Array.forIn_toList]
  refine wpAny_bind ?_
  simp only [List.forIn_cons, List.forIn_nil]
  refine wpAny_bind (wpAny_bind (wpAny_holding ?_))
  show wpAny _ _ (Builtin.SmallTypes.nextOf (.ref i1) >>= _) _ _ _
  refine wpAny_bind (RZ.nextOf_tuple_item (h1.extBut sa.extBut D.i1z) (hl1.extBut sa.extBut D.l1z) hx fun hb h1b sb => wpAny_pure ?_)
  refine wpAny_pure ?_
  dsimp only
  refine wpAny_bind (wpAny_bind (wpAny_holding ?_))
  show wpAny _ _ (Builtin.SmallTypes.nextOf (.ref i2) >>= _) _ _ _
  refine wpAny_bind (RZ.nextOf_tuple_item ((h2.extBut sa.extBut D.i2z).extBut sb.extBut D.i12.symm) ((hl2.extBut sa.extBut D.l2z).extBut sb.extBut D.l2i1) hy fun hc h2c sc => wpAny_pure ?_)
  refine wpAny_pure ?_
  dsimp only
  refine wpAny_pure ?_
  dsimp only
  refine wpAny_bind (wpAny_newTuple (hsz := by simp [sizeLine_eq]) ?_)
  have sz : hc.objs.size = s.heap.objs.size := by rw [sc.1, sb.1, sa.1]
  have kp : ∀ c o, c ≠ z → c ≠ i1 → c ≠ i2 → s.heap.get? c = some o → hc.get? c = some o := fun c o c1 c2 c3 e => sc.extBut _ _ c3 (sb.extBut _ _ c2 (sa.extBut _ _ c1 e))
  have hzc : hc.get? z = some (zO T true TI TO) := sc.extBut _ _ D.i2z.symm (sb.extBut _ _ D.i1z.symm hza)
  have h1c : hc.IsTupleIter i1 l1 (k1 + 1) := h1b.extBut sc.extBut D.i12
  refine wpAny_pure ⟨_, rfl, ?_⟩
  show Q (.ref hc.objs.size) _
  rw [sz]
  refine hQ _ (Heap.get?_push_of_some _ hzc) (h1c.at fun o e => Heap.get?_push_of_some _ e) (h2c.at fun o e => Heap.get?_push_of_some _ e) ?_ (by rw [Heap.size_push, sz]) fun c o c1 c2 c3 e => Heap.get?_push_of_some _ (kp c o c1 c2 c3 e)
  rw [← sz]
  exact Heap.get?_push_size _ rfl
theorem out_end {z TI TO i1 i2 l1 l2 T : Addr} {k1 k2 : Nat} {xs ys : Array Value} {f : Bool} {oT : Obj} {Q : Fin → Shared → Prop} (hh : A.handled = none) (D : ZipApart z TI TO i1 i2 l1 l2)
    (hz : s.heap.get? z = some (zO T f TI TO)) (hT : s.heap.get? T = some oT) (hTI : IsPair s.heap TI (.ref i1) (.ref i2))
    (h1 : s.heap.IsTupleIter i1 l1 k1) (h2 : s.heap.IsTupleIter i2 l2 k2) (hl1 : s.heap.IsTuple l1 xs) (hl2 : s.heap.IsTuple l2 ys) (hend : xs[k1]? = none ∨ ys[k2]? = none)
    (hE : ∀ h' e, (∀ c o, c ≠ z → c ≠ i1 → c ≠ i2 → s.heap.get? c = some o → h'.get? c = some o) → (∃ o, h'.get? e = some o ∧ o.cls = .type "StopIteration") → E (.ref e) { s with heap := h' }) :
    wpAny (model prog w) A (Builtin.«zip.__next__» ⟨[.ref z], []⟩) Q E s := by
  show wpAny _ _ (field (.ref z) 2 >>= _) _ _ _
  refine wpAny_bind (wpAny_field hz rfl (x := .bool false) rfl ?_)
  show wpAny _ _ (field (.ref z) 3 >>= _) _ _ _
  refine wpAny_bind (wpAny_field hz rfl (x := .ref TI) rfl ?_)
  refine wpAny_bind (wpAny_seqItems hTI rfl ?_)
  show wpAny _ _ (Builtin.SmallTypes.ownedTupleIsFree (.ref z) >>= _) _ _ _
  refine wpAny_bind (free_no hz hT fun ha hza sa => ?_)
  simp only [Bool.false_eq_true, if_false]
  rw [← Array.forIn_toList]
  refine wpAny_bind ?_
  simp only [List.forIn_cons, List.forIn_nil]
  refine wpAny_bind (wpAny_bind (wpAny_holding ?_))
  show wpAny _ _ (Builtin.SmallTypes.nextOf (.ref i1) >>= _) _ _ _
  cases hx : xs[k1]? with
  | none => exact wpAny_bind (RZ.nextOf_tuple_end hh (h1.extBut sa.extBut D.i1z) (hl1.extBut sa.extBut D.l1z) hx fun hb e sb he => hE hb e (fun c o c1 c2 _ x => sb _ _ c2 (sa.extBut _ _ c1 x)) he)
  | some x =>
    have hy : ys[k2]? = none := by
      rcases hend with h | h
      · rw [hx] at h; cases h
      · exact h
    refine wpAny_bind (RZ.nextOf_tuple_item (h1.extBut sa.extBut D.i1z) (hl1.extBut sa.extBut D.l1z) hx fun hb h1b sb => wpAny_pure ?_)
    refine wpAny_pure ?_
    dsimp only
    refine wpAny_bind (wpAny_bind (wpAny_holding ?_))
    show wpAny _ _ (Builtin.SmallTypes.nextOf (.ref i2) >>= _) _ _ _
    exact wpAny_bind (RZ.nextOf_tuple_end hh ((h2.extBut sa.extBut D.i2z).extBut sb.extBut D.i12.symm) ((hl2.extBut sa.extBut D.l2z).extBut sb.extBut D.l2i1) hy fun hc e sc he =>
      hE hc e (fun c o c1 c2 c3 x => sc _ _ c3 (sb.extBut _ _ c2 (sa.extBut _ _ c1 x))) he)

/-- where zip stands: nothing given out yet, or the last pair lives on -/
structure St (h : Heap) (S z TI TO i1 i2 l1 l2 : Addr) (k : Nat) (xs ys : Array Value) : Prop where
  st : (IsZip h z TI TO .none ∧ ∃ a b, IsPair h TO a b) ∨ ∃ T f oT, h.get? z = some (zO T f TI TO) ∧ h.get? T = some oT ∧ T ≠ z ∧ T ≠ S ∧ T ≠ TO ∧ T ≠ i1 ∧ T ≠ i2
  pTI : IsPair h TI (.ref i1) (.ref i2)
  h1 : h.IsTupleIter i1 l1 k
  h2 : h.IsTupleIter i2 l2 k
  t1 : h.IsTuple l1 xs
  t2 : h.IsTuple l2 ys
structure Far (S z TI TO i1 i2 l1 l2 : Addr) : Prop where
  Sz : z ≠ S
  STI : TI ≠ S
  STO : TO ≠ S
  S1 : i1 ≠ S
  S2 : i2 ≠ S
  Sl : l1 ≠ S
  Sm : l2 ≠ S
theorem St.keep {h h' : Heap} {S z TI TO i1 i2 l1 l2 : Addr} {k : Nat} {xs ys : Array Value} (Z : St h S z TI TO i1 i2 l1 l2 k xs ys) (f : Far S z TI TO i1 i2 l1 l2) (hk : ∀ b o, b ≠ S → h.get? b = some o → h'.get? b = some o) : St h' S z TI TO i1 i2 l1 l2 k xs ys where
  st := by
    rcases Z.st with ⟨a, x, y, b⟩ | ⟨T, g, oT, a, b, c, d, e⟩
    · exact .inl ⟨hk _ _ f.Sz a, x, y, hk _ _ f.STO b⟩
    · exact .inr ⟨T, g, oT, hk _ _ f.Sz a, hk _ _ d b, c, d, e⟩
  pTI := hk _ _ f.STI Z.pTI
  h1 := Z.h1.at fun o e => hk _ o f.S1 e
  h2 := Z.h2.at fun o e => hk _ o f.S2 e
  t1 := Z.t1.at fun o e => hk _ o f.Sl e
  t2 := Z.t2.at fun o e => hk _ o f.Sm e
theorem next_item {S z TI TO i1 i2 l1 l2 : Addr} {k : Nat} {xs ys : Array Value} {x y : Value} {Q : Option Value → Shared → Prop} (D : ZipApart z TI TO i1 i2 l1 l2) (Z : St s.heap S z TI TO i1 i2 l1 l2 k xs ys) (hS : S < s.heap.objs.size) (hx : xs[k]? = some x) (hy : ys[k]? = some y)
    (hQ : ∀ h', St h' S z TI TO i1 i2 l1 l2 (k + 1) xs ys → IsPair h' s.heap.objs.size x y → h'.objs.size = s.heap.objs.size + 1 → (∀ c o, c ≠ z → c ≠ TO → c ≠ i1 → c ≠ i2 → s.heap.get? c = some o → h'.get? c = some o) →
      Q (some (.ref s.heap.objs.size)) { s with heap := h' }) : wpAny (model prog w) A (pyNext (.ref z)) Q E s := by
  have up : ∀ {c o}, s.heap.get? c = some o → s.heap.objs.size ≠ c := fun e => Nat.ne_of_gt (Heap.lt_size e)
  have l1 : s.heap.objs.size ≠ i1 := by obtain ⟨_, e, _⟩ := Z.h1; exact up e
  have l2 : s.heap.objs.size ≠ i2 := by obtain ⟨_, e, _⟩ := Z.h2; exact up e
  rcases Z.st with ⟨hz, a, b, hTO⟩ | ⟨T, f, oT, hz, hT, n1, n2, n3, n4, n5⟩
  · refine RZ.pyNext_zipT_item D hz Z.pTI hTO Z.h1 Z.h2 Z.t1 Z.t2 hx hy fun h' a1 a2 a3 a4 a5 a6 a7 => hQ h' ⟨.inr ⟨s.heap.objs.size, false, _, a1, a5, up hz, Nat.ne_of_gt hS, up hTO, l1, l2⟩, a7 _ _ D.TIz D.TITO D.TIi1 D.TIi2 Z.pTI, a3, a4,
      Z.t1.at fun o e => a7 _ o D.l1z D.l1TO D.l1i1 D.l1i2 e, Z.t2.at fun o e => a7 _ o D.l2z D.l2TO D.l2i1 D.l2i2 e⟩ a5 a6 a7
  · have tz : s.TypeIs (.ref z) "zip" := ⟨_, hz, rfl⟩
    unfold pyNext
    refine wpAny_bind (wpAny_attempt (wpAny_callSpecial?_slot (name := Str.ofString "__next__") tz F.slot_zip_next (wpAny_call_entry F.slot_zip_next tz F.entry_zip_next
      (out_item D hz hT Z.pTI Z.h1 Z.h2 Z.t1 Z.t2 hx hy fun h' a1 a3 a4 a5 a6 a7 => wpAny_pure (hQ h' ⟨.inr ⟨T, true, oT, a1, a7 _ _ n1 n4 n5 hT, n1, n2, n3, n4, n5⟩, a7 _ _ D.TIz D.TIi1 D.TIi2 Z.pTI, a3, a4,
        Z.t1.at fun o e => a7 _ o D.l1z D.l1i1 D.l1i2 e, Z.t2.at fun o e => a7 _ o D.l2z D.l2i1 D.l2i2 e⟩ a5 a6 fun c o c1 _ c3 c4 e => a7 c o c1 c3 c4 e)) (F.args_zip_next_1 _))))
theorem next_end {S z TI TO i1 i2 l1 l2 : Addr} {k : Nat} {xs ys : Array Value} {Q : Option Value → Shared → Prop} (hh : A.handled = none) (D : ZipApart z TI TO i1 i2 l1 l2) (Z : St s.heap S z TI TO i1 i2 l1 l2 k xs ys) (hend : xs[k]? = none ∨ ys[k]? = none)
    (hQ : ∀ h', (∀ c o, c ≠ z → c ≠ TO → c ≠ i1 → c ≠ i2 → s.heap.get? c = some o → h'.get? c = some o) → Q none { s with heap := h' }) : wpAny (model prog w) A (pyNext (.ref z)) Q E s := by
  rcases Z.st with ⟨hz, a, b, hTO⟩ | ⟨T, f, oT, hz, hT, n1, n2, n3, n4, n5⟩
  · exact RZ.pyNext_zipT_end hh D hz Z.pTI hTO Z.h1 Z.h2 Z.t1 Z.t2 hend hQ
  · have tz : s.TypeIs (.ref z) "zip" := ⟨_, hz, rfl⟩
    unfold pyNext
    refine wpAny_bind (wpAny_attempt (wpAny_callSpecial?_slot (name := Str.ofString "__next__") tz F.slot_zip_next (wpAny_call_entry F.slot_zip_next tz F.entry_zip_next
      (out_end hh D hz hT Z.pTI Z.h1 Z.h2 Z.t1 Z.t2 hend fun h' e hk he => ?_) (F.args_zip_next_1 _))))
    obtain ⟨o, ho, hc⟩ := he
    refine wpAny_bind (wpAny_isInstance (T := "StopIteration") (b := true) ⟨o, ho, hc⟩ isSubtype_stop ?_)
    exact wpAny_pure (hQ _ fun c o c1 _ c3 c4 x => hk c o c1 c3 c4 x)
end
/-- the pairs that were made -/
structure Prs (lo : Addr) (h : Heap) (as : List Addr) (xs ys : Array Value) : Prop where
  rise : as.Pairwise (· < ·)
  above : ∀ a ∈ as, lo < a
  pairs : ∀ (j : Nat) (a : Addr), as[j]? = some a → ∃ x y, xs[j]? = some x ∧ ys[j]? = some y ∧ IsPair h a x y
section
variable {prog : Program} {w : World} {A : Around} {s : Shared} {R : Result → Shared → Prop} {S z TI TO i1 i2 l1 l2 : Addr} {xs ys : Array Value}
theorem zip_no_len : typeLookup (.type "zip") "__len__" = pure none := by rw [typeLookup_type, builtinLookup_eq_fast]; kernel_rfl
theorem zip_no_hint : typeLookup (.type "zip") "__length_hint__" = pure none := by rw [typeLookup_type, builtinLookup_eq_fast]; kernel_rfl
theorem Prs.there {lo : Addr} {h : Heap} {as : List Addr} (g : Prs lo h as xs ys) {a : Addr} (ha : a ∈ as) : a < h.objs.size := by
  obtain ⟨j, hj⟩ := List.mem_iff_getElem?.mp ha
  obtain ⟨_, _, _, _, e⟩ := g.pairs j a hj
  exact Heap.lt_size e
theorem loop (hh : A.handled = none) (D : ZipApart z TI TO i1 i2 l1 l2) (Fa : Far S z TI TO i1 i2 l1 l2) (hsz : xs.size = ys.size) (hn : xs.size ≤ sizeLine) (res : Value) {h1 : Heap} {lo : Addr} (hlo : S ≤ lo) (hz : z ≤ lo) (hTO : TO ≤ lo) (hi1 : i1 ≤ lo) (hi2 : i2 ≤ lo)
    (hR : ∀ h' tk acc c as, (∀ b o, b ≠ S → b ≠ z → b ≠ TO → b ≠ i1 → b ≠ i2 → h1.get? b = some o → h'.get? b = some o) → h'.get? S = some { cls := .type "list", dict := none, data := .seq acc c, slots := #[] } → as.length = xs.size → Prs lo h' as xs ys →
      acc.toList = as.map Value.ref → R (.ok (.ret res)) { s with heap := h', toks := tk }) :
    ∀ (k i : Nat) (h : Heap) (tk c : Nat) (acc : Array Value) (as : List Addr), xs.size - i = k → i ≤ xs.size → St h S z TI TO i1 i2 l1 l2 i xs ys → (∀ b o, b ≠ S → b ≠ z → b ≠ TO → b ≠ i1 → b ≠ i2 → h1.get? b = some o → h.get? b = some o) →
      h.get? S = some { cls := .type "list", dict := none, data := .seq acc c, slots := #[] } → acc.toList = as.map Value.ref → as.length = i → Prs lo h as xs ys → lo < h.objs.size →
      codeAny (model prog w) A (.builtin "list.extend.loop" ⟨[.ref S, .ref z, res], []⟩) R { s with heap := h, toks := tk } := by
  intro k
  induction k with
  | zero =>
    intro i h tk c acc as hk hi Z hkp hS hacc hal hG hIs
    have hin : i = xs.size := by omega
    refine codeAny_builtin PySem.F.entry_extend_loop ?_
    rw [Around.under_plainId PySem.F.plain_extend_loop _]
    show wpAny _ A.in1 (pyNext (.ref z) >>= _) _ _ _
    refine wpAny_bind (next_end (s := { s with heap := h, toks := tk }) (A := A.in1) hh D Z (.inl (Array.getElem?_eq_none (by omega))) fun h' he => ?_)
    refine wpAny_pure (hR h' tk acc c as (fun b o n1 n2 n3 n4 n5 e => he b o n2 n3 n4 n5 (hkp b o n1 n2 n3 n4 n5 e)) (he S _ Fa.Sz.symm Fa.STO.symm Fa.S1.symm Fa.S2.symm hS) (by omega) ⟨hG.rise, hG.above, fun j a hj => ?_⟩ hacc)
    obtain ⟨x, y, e1, e2, e3⟩ := hG.pairs j a hj
    have hb := hG.above a (List.mem_of_getElem? hj)
    have far : ∀ {c : Addr}, c ≤ lo → a ≠ c := fun q => Nat.ne_of_gt (Nat.lt_of_le_of_lt q hb)
    exact ⟨x, y, e1, e2, he a _ (far hz) (far hTO) (far hi1) (far hi2) e3⟩
  | succ k ih =>
    intro i h tk c acc as hk hi Z hkp hS hacc hal hG hIs
    have hlt : i < xs.size := by omega
    have hasz : acc.size = i := by rw [← Array.length_toList, hacc, List.length_map, hal]
    refine codeAny_builtin PySem.F.entry_extend_loop ?_
    rw [Around.under_plainId PySem.F.plain_extend_loop _]
    show wpAny _ A.in1 (pyNext (.ref z) >>= _) _ _ _
    have ex : xs[i]? = some xs[i] := Array.getElem?_eq_getElem hlt
    have ey : ys[i]? = some (ys[i]'(by omega)) := Array.getElem?_eq_getElem (by omega)
    refine wpAny_bind (next_item (s := { s with heap := h, toks := tk }) D Z (Heap.lt_size hS) ex ey fun h' Z' ht hz' hkn => ?_)
    dsimp only at ht hz' hkn ⊢
    have hS' := hkn S _ Fa.Sz.symm Fa.STO.symm Fa.S1.symm Fa.S2.symm hS
    have up : ∀ b o, b ≠ S → h'.get? b = some o → (h'.update S (Obj.mapSeq (·.push (Value.ref h.objs.size)))).get? b = some o := fun b o hb e => (Heap.get?_update_other _ _ (Ne.symm hb)).trans e
    have hSl : S < h.objs.size := Heap.lt_size hS
    show wpAny _ A.in1 (updateSeq S (·.push (Value.ref h.objs.size)) >>= _) _ _ _
    refine wpAny_bind ?_
    refine wpAny_updateSeq hS' rfl (wpAny_pure ⟨plainId_quiet PySem.F.plain_extend_loop _, ih (i + 1) _ tk _ (acc.push (Value.ref h.objs.size)) (as ++ [h.objs.size]) (by omega) hlt (Z'.keep Fa up)
      (fun b o n1 n2 n3 n4 n5 e => up b o n1 (hkn b o n2 n3 n4 n5 (hkp b o n1 n2 n3 n4 n5 e))) (Heap.get?_update_self _ hS' rfl) (by rw [Array.toList_push, hacc, List.map_append]; rfl) (by rw [List.length_append, hal]; rfl) ⟨?_, ?_, ?_⟩ ?_⟩) (by rw [hasz]; omega) (by show (acc.push (Value.ref h.objs.size)).size ≤ sizeLine + 1; rw [Array.size_push, hasz]; omega)
    · refine List.pairwise_append.mpr ⟨hG.rise, List.pairwise_singleton _ _, fun a ha b hb => ?_⟩
      rw [List.mem_singleton.mp hb]
      exact hG.there ha
    · intro a ha
      rcases List.mem_append.mp ha with ha | ha
      · exact hG.above a ha
      · rw [List.mem_singleton.mp ha]; exact hIs
    · intro j b hj
      rcases Nat.lt_trichotomy j as.length with q | q | q
      · rw [List.getElem?_append_left q] at hj
        obtain ⟨x, y, e1, e2, e3⟩ := hG.pairs j b hj
        have hb := hG.above b (List.mem_of_getElem? hj)
        have far : ∀ {c : Addr}, c ≤ lo → b ≠ c := fun q => Nat.ne_of_gt (Nat.lt_of_le_of_lt q hb)
        exact ⟨x, y, e1, e2, up b _ (far hlo) (hkn b _ (far hz) (far hTO) (far hi1) (far hi2) e3)⟩
      · subst q
        have hb : h.objs.size = b := by simpa using hj
        subst hb
        subst hal
        exact ⟨_, _, ex, ey, up _ _ (Nat.ne_of_gt hSl) ht⟩
      · have hnone : (as ++ [h.objs.size])[j]? = none := List.getElem?_eq_none (by rw [List.length_append, List.length_singleton]; omega)
        rw [hnone] at hj; cases hj
    · have e : (h'.update S (Obj.mapSeq (·.push (Value.ref h.objs.size)))).get? h.objs.size = _ := up _ _ (Nat.ne_of_gt hSl) ht
      exact Nat.lt_trans hIs (Heap.lt_size e)
theorem extend (hh : A.handled = none) (D : ZipApart z TI TO i1 i2 l1 l2) (Fa : Far S z TI TO i1 i2 l1 l2) (hsz : xs.size = ys.size) (hn : xs.size ≤ sizeLine) (res : Value) (c₀ : Nat) (hz : IsZip s.heap z TI TO .none) (hTI : IsPair s.heap TI (.ref i1) (.ref i2)) (hTO : IsPair s.heap TO .none .none)
    (h1 : s.heap.IsTupleIter i1 l1 0) (h2 : s.heap.IsTupleIter i2 l2 0) (t1 : s.heap.IsTuple l1 xs) (t2 : s.heap.IsTuple l2 ys) (hS : s.heap.get? S = some { cls := .type "list", data := .seq #[] c₀ }) {lo : Addr} (hlo : s.heap.objs.size = lo + 1)
    (hR : ∀ h' tk acc c as, (∀ b o, b ≠ S → b ≠ z → b ≠ TO → b ≠ i1 → b ≠ i2 → s.heap.get? b = some o → h'.get? b = some o) → h'.get? S = some { cls := .type "list", dict := none, data := .seq acc c, slots := #[] } → as.length = xs.size → Prs lo h' as xs ys →
      acc.toList = as.map Value.ref → R (.ok (.ret res)) { s with heap := h', toks := tk }) :
    wpAny (model prog w) A.in1 (Builtin.List.listExtendWith (.ref S) (.ref z) res)
      (fun fin s' => match fin with | .done f => R (.ok f) s' | .again c' => c'.quiet = true ∧ codeAny (model prog w) A c' R s') (fun e s' => R (.error e) s') s := by
  have tz : s.TypeIs (.ref z) "zip" := ⟨_, hz, rfl⟩
  have le : ∀ {b : Addr} {o : Obj}, s.heap.get? b = some o → b ≤ lo := fun {b o} e => by
    have q : b < s.heap.objs.size := Heap.lt_size e
    rw [hlo] at q
    exact Nat.le_of_lt_succ q
  have l1' : i1 ≤ lo := by obtain ⟨_, e, _⟩ := h1; exact le e
  have l2' : i2 ≤ lo := by obtain ⟨_, e, _⟩ := h2; exact le e
  have key : ∀ (h : Heap) (c₁ tk : Nat), h.objs.size = s.heap.objs.size → (∀ b o, b ≠ S → s.heap.get? b = some o → h.get? b = some o) → h.get? S = some { cls := .type "list", data := .seq #[] c₁ } → codeAny (model prog w) A (.builtin "list.extend.loop" ⟨[.ref S, .ref z, res], []⟩) R { s with heap := h, toks := tk } := by
    intro h c₁ tk hsame hk hS1
    have Z0 : St s.heap S z TI TO i1 i2 l1 l2 0 xs ys := ⟨.inl ⟨hz, _, _, hTO⟩, hTI, h1, h2, t1, t2⟩
    have big : lo < h.objs.size := by rw [hsame, hlo]; exact Nat.lt_succ_self _
    exact loop hh D Fa hsz hn res (h1 := s.heap) (le hS) (le hz) (le hTO) l1' l2' (fun h' tk' acc c as q1 q2 q3 q4 q5 => hR h' tk' acc c as q1 q2 q3 q4 q5) xs.size 0 h tk c₁ #[] [] (Nat.sub_zero _) (Nat.zero_le _) (Z0.keep Fa hk)
      (fun b o n1 _ _ _ _ e => hk b o n1 e) hS1 rfl rfl ⟨List.Pairwise.nil, (fun _ ha => nomatch ha), (fun j a hj => by simp at hj)⟩ big
  unfold Builtin.List.listExtendWith
  refine wpAny_bind (wpAny_typeOf (T := "zip") tz ?_)
  have e1 : Builtin.List.listSameRef (.ref S) (.ref z) = false := by simp [Builtin.List.listSameRef, Fa.Sz.symm]
  have e2 : (Value.type "zip" == Value.type "list") = false := by decide
  have e3 : (Value.type "zip" == Value.type "tuple") = false := by decide
  simp only [e1, e2, e3, Bool.or_false, Bool.false_eq_true, if_false]
  refine wpAny_bind (wpAny_pyIter_zip hz ?_)
  refine wpAny_bind (wpAny_holding ?_)
  unfold Builtin.List.listLengthHint
  refine wpAny_bind (wpAny_specialOf tz zip_no_len ?_)
  show wpAny _ A.in1 (specialOf (Value.ref z) (Str.ofString "__length_hint__") >>= _) _ _ _
  refine wpAny_bind (wpAny_specialOf tz zip_no_hint ?_)
  refine wpAny_pure ?_
  show wpAny _ A.in1 (rule "list.extend.makes-room" >>= fun _ => Builtin.List.listTouch (.ref S) >>= fun _ => again (.builtin "list.extend.loop" ⟨[.ref S, .ref z, res], []⟩)) _ _ _
  refine wpAny_bind (wpAny_rule ?_)
  refine wpAny_bind ?_
  show wpAny _ A.in1 (updateSeq S (·.push .none) >>= fun _ => updateSeq S (·.pop)) _ _ _
  refine wpAny_bind (wpAny_updateSeq hS rfl ?_)
  have hSa := Heap.get?_update_self (Obj.mapSeq (·.push Value.none)) hS rfl
  refine wpAny_updateSeq (hz := by seq_fits) hSa rfl ?_
  have hSb := Heap.get?_update_self (Obj.mapSeq (·.pop)) hSa rfl
  refine wpAny_pure ⟨plainId_quiet PySem.F.plain_extend_loop _, key _ _ _ ?_ (fun b o hb e => ?_) hSb⟩
  · exact (Heap.SameBut.update ..).1.trans (Heap.SameBut.update ..).1
  · exact (Heap.get?_update_other _ _ (Ne.symm hb)).trans ((Heap.get?_update_other _ _ (Ne.symm hb)).trans e)
theorem call_list (hh : A.handled = none) {a b : Addr} (hsz : xs.size = ys.size) (hn : xs.size ≤ sizeLine) {s0 : Shared} {h : Heap} {E : Value → Shared → Prop} {Q : Value → Shared → Prop} (es : s = { s0 with heap := h }) (n0 : h.objs.size = s0.heap.objs.size + 5)
    (hz : IsZip h (s0.heap.objs.size + 4) (s0.heap.objs.size + 2) (s0.heap.objs.size + 3) .none) (hTI : IsPair h (s0.heap.objs.size + 2) (.ref s0.heap.objs.size) (.ref (s0.heap.objs.size + 1))) (hTO : IsPair h (s0.heap.objs.size + 3) .none .none)
    (h1 : h.IsTupleIter s0.heap.objs.size a 0) (h2 : h.IsTupleIter (s0.heap.objs.size + 1) b 0) (t1 : h.IsTuple a xs) (t2 : h.IsTuple b ys) (la : a < s0.heap.objs.size) (lb : b < s0.heap.objs.size)
    (hQ : ∀ h' tk acc c as, (∀ b o, s0.heap.get? b = some o → h.get? b = some o → h'.get? b = some o) → h'.get? (s0.heap.objs.size + 5) = some { cls := .type "list", dict := none, data := .seq acc c, slots := #[] } → as.length = xs.size → Prs (s0.heap.objs.size + 5) h' as xs ys →
      acc.toList = as.map Value.ref → Q (.ref (s0.heap.objs.size + 5)) { s0 with heap := h', toks := tk }) :
    wpAny (model prog w) A (call (.type "list") [.ref (s0.heap.objs.size + 4)]) Q E s := by
  subst es
  have nS : s0.heap.objs.size + 5 = h.objs.size := n0.symm
  rw [nS] at hQ
  refine callType_codes (Q₁ := fun obj s₁ => obj = .ref h.objs.size ∧ s₁ = { s0 with heap := h.push { cls := .type "list", data := .seq #[] } }) PySem.F.called_list (PySem.F.typeCall_list_1 _) PySem.F.entry_list_init
    (code_list_new _ ⟨rfl, rfl⟩) fun obj s₁ h₁ => ?_
  obtain ⟨rfl, rfl⟩ := h₁
  have hS : (h.push { cls := .type "list", data := .seq #[] }).get? h.objs.size = some { cls := .type "list", data := .seq #[] } := Heap.get?_push_size _ rfl
  refine ⟨⟨_, hS, rfl⟩, PySem.F.args_list_init_2 _ _, ?_⟩
  show wpAny _ _ (do let old ← Builtin.List.listItems (.ref h.objs.size); Builtin.List.listUpdate (.ref h.objs.size) (fun _ => #[]); letGo old.toList.reverse; Builtin.List.listExtendWith (.ref h.objs.size) (.ref (s0.heap.objs.size + 4)) .none) _ _ _
  refine wpAny_bind ?_
  unfold Builtin.List.listItems
  refine wpAny_bind (wpAny_seqItems hS rfl (wpAny_pure ?_))
  show wpAny _ _ (updateSeq h.objs.size (fun _ => #[]) >>= fun _ => letGo (#[] : Array Value).toList.reverse >>= fun _ => Builtin.List.listExtendWith (.ref h.objs.size) (.ref (s0.heap.objs.size + 4)) .none) _ _ _
  refine wpAny_bind (wpAny_updateSeq hS rfl ?_)
  have hS2 := Heap.get?_update_self (Obj.mapSeq (fun _ => (#[] : Array Value))) hS rfl
  have oth : ∀ b o, h.get? b = some o → ((h.push { cls := .type "list", data := .seq #[] }).update h.objs.size (Obj.mapSeq (fun _ => (#[] : Array Value)))).get? b = some o := fun b o e =>
    (Heap.get?_update_other _ _ (Nat.ne_of_gt (Heap.lt_size e))).trans (Heap.get?_push_of_some _ e)
  refine wpAny_bind (wpAny_letGo ?_)
  have D := PySem.W.ktu_apart s0.heap.objs.size a b la lb
  have nz : ∀ i, i < 5 → s0.heap.objs.size + i ≠ h.objs.size := fun i hi q => by omega
  have Fa : Far h.objs.size (s0.heap.objs.size + 4) (s0.heap.objs.size + 2) (s0.heap.objs.size + 3) s0.heap.objs.size (s0.heap.objs.size + 1) a b :=
    ⟨nz 4 (by omega), nz 2 (by omega), nz 3 (by omega), nz 0 (by omega), nz 1 (by omega), Nat.ne_of_lt (Nat.lt_of_lt_of_le la (by omega)), Nat.ne_of_lt (Nat.lt_of_lt_of_le lb (by omega))⟩
  refine extend (A := A.in1) (lo := h.objs.size) hh D Fa hsz hn .none _ (oth _ _ hz) (oth _ _ hTI) (oth _ _ hTO) (h1.at fun o e => oth _ o e) (h2.at fun o e => oth _ o e) (t1.at fun o e => oth _ o e) (t2.at fun o e => oth _ o e) hS2 ?_ fun h' tk acc c as hk hS' hl hG hacc => ?_
  · exact (Heap.SameBut.update ..).1.trans (Heap.size_push ..)
  · refine ⟨rfl, hQ h' tk acc c as (fun b o e0 e => ?_) hS' hl hG hacc⟩
    have lt : b < s0.heap.objs.size := Heap.lt_size e0
    have nn : ∀ i, b ≠ s0.heap.objs.size + i := fun i => Nat.ne_of_lt (Nat.lt_of_lt_of_le lt (Nat.le_add_right _ _))
    exact hk b o (by rw [← nS]; exact nn 5) (nn 4) (nn 3) (nn 0) (nn 1) (oth b o e)
end
end ZL
end
section
set_option maxRecDepth 100000
/-! TM: dicts, over tree values. -/
namespace TL
open PySem PySem.Spec PyProof.Rows L2

def lookK {α : Type} (kvs : List (Key × α)) (k : Key) : Option α := (kvs.find? fun kv => decide (kv.1 = k)).map (·.2)
def putG {α : Type} (kvs : List (Key × α)) (k : Key) (v : α) : List (Key × α) :=
  if (kvs.any fun kv => decide (kv.1 = k)) = true then kvs.map (fun kv => if kv.1 = k then (kv.1, v) else kv) else kvs ++ [(k, v)]
section
variable {K : PySem.W.Frag} {F : Hp} {vs : List (Key × V)} {ds : List (Key × D)} {k : Key}
theorem RepK.look (r : RepK K F vs ds) {d : D} (h : lookK ds k = some d) : ∃ v, valV vs k = some v ∧ Rep K F v d := by
  induction vs generalizing ds with
  | nil => cases r; cases h
  | cons p vs ih =>
    cases r with
    | @cons k' v _ d' ds' a r =>
      by_cases e : k' = k
      · subst e
        simp [lookK] at h
        subst h
        exact ⟨v, by simp [valV], a⟩
      · simp [lookK, e] at h
        obtain ⟨v', hv, rv⟩ := ih r (by simpa [lookK] using h)
        exact ⟨v', by simpa [valV, e] using hv, rv⟩
theorem RepK.lookN (r : RepK K F vs ds) (h : lookK ds k = none) : valV vs k = none := by
  induction vs generalizing ds with
  | nil => rfl
  | cons p vs ih =>
    cases r with
    | @cons k' v _ d' ds' a r =>
      by_cases e : k' = k
      · subst e
        simp [lookK] at h
      · simp [lookK, e] at h
        have := ih r (by simpa [lookK] using h)
        simpa [valV, e] using this
theorem RepK.isSome (r : RepK K F vs ds) : (valV vs k).isSome = (lookK ds k).isSome := by
  cases h : lookK ds k with
  | none => rw [r.lookN h]; rfl
  | some d => obtain ⟨v, hv, _⟩ := r.look h; rw [hv]; rfl
theorem RepK.any (r : RepK K F vs ds) : (vs.any fun kv => decide (kv.1 = k)) = ds.any fun kv => decide (kv.1 = k) := by
  induction vs generalizing ds with
  | nil => cases r; rfl
  | cons p vs ih =>
    cases r with
    | cons a r => rw [List.any_cons, List.any_cons, ih r]
theorem RepK.len (r : RepK K F vs ds) : vs.length = ds.length := by
  induction vs generalizing ds with
  | nil => cases r; rfl
  | cons p vs ih =>
    cases r with
    | cons a r => rw [List.length_cons, List.length_cons, ih r]
theorem RepK.snoc (r : RepK K F vs ds) {v : V} {d : D} (a : Rep K F v d) : RepK K F (vs ++ [(k, v)]) (ds ++ [(k, d)]) := by
  induction vs generalizing ds with
  | nil => cases r; exact .cons a .nil
  | cons p vs ih =>
    cases r with
    | cons b r => exact .cons b (ih r)
theorem RepK.map (r : RepK K F vs ds) {v : V} {d : D} (a : Rep K F v d) : RepK K F (vs.map fun kv => if kv.1 = k then (kv.1, v) else kv) (ds.map fun kv => if kv.1 = k then (kv.1, d) else kv) := by
  induction vs generalizing ds with
  | nil => cases r; exact .nil
  | cons p vs ih =>
    cases r with
    | @cons k' v' _ d' ds' b r =>
      rw [List.map_cons, List.map_cons]
      by_cases e : k' = k
      · rw [if_pos e, if_pos e]; exact .cons a (ih r)
      · rw [if_neg e, if_neg e]; exact .cons b (ih r)
theorem RepK.put (r : RepK K F vs ds) {v : V} {d : D} (a : Rep K F v d) : RepK K F (putK vs k v) (putG ds k d) := by
  unfold putK putG
  rw [r.any]
  split
  · exact r.map a
  · exact r.snoc a
end
/-- a key as data -/
def keyV : Key → D
  | .inl i => .int i
  | .inr x => .str x.cps.toList
theorem rep_key {K : PySem.W.Frag} {F : Hp} {v : V} {k : Key} (r : Rep K F v (keyV k)) : v = kV k := by
  cases k with
  | inl i => cases r; rfl
  | inr x =>
    obtain ⟨⟨l⟩⟩ := x
    cases r
    rfl
theorem key_rep {K : PySem.W.Frag} {F : Hp} (k : Key) : Rep K F (kV k) (keyV k) := by
  cases k with
  | inl i => exact .int i
  | inr x =>
    obtain ⟨⟨l⟩⟩ := x
    exact .str l
theorem keyV_str (x : List Nat) : keyV (.inr ⟨x.toArray⟩) = .str x := rfl
section
variable {X : Cx} {pins : Pins} {σ : SS} {H F : Hp} {M : Mp} {ρ : En} {s : Shared} {Q : DQ} {kvs : List (Key × D)} {k : Key} {d : D} {e o i value : Expr} {pos pos' : Pos}
/-- d[y] -/
theorem VI.get (hu : X.A.units + 1 < cLine) {y : D} (hy : y = keyV k) (hd : lookK kvs k = some d) (h : Q d M) : VI X (.dic kvs) y M Q := by
  intro va sl pins s σ H F v1 v2 u1 u2 I R r1 r2 p1 p2 hs
  subst hy
  cases p1 with
  | dic hF rK =>
    obtain rfl := rep_key p2
    obtain ⟨v, hv, rv⟩ := rK.look hd
    cases r1
    have g : DGet H _ (kV k) (some v) := .inl ⟨_, k, .inl (R.sub _ _ hF), rfl, hv.symm⟩
    exact tail_any (ops := [_, u2]) (dict_typeIs I g) PySem.F.slot_dict_getitem.lookup (d_getItem hu I g r2 fun w' s' I' rw' => ⟨v, H, F, M, d, I', rw', Stp.refl R, rv, h⟩) hs
theorem VI.getM (hu : X.A.units + 1 < cLine) {a : Addr} {y : D} (hm : M a = some (.dic kvs)) (hy : y = keyV k) (hd : lookK kvs k = some d) (h : Q d M) : VI X (.ref a) y M Q := by
  intro va sl pins s σ H F v1 v2 u1 u2 I R r1 r2 p1 p2 hs
  subst hy
  cases p1
  obtain rfl := rep_key p2
  obtain ⟨vs, hv0, rK⟩ := R.dic hm
  obtain ⟨v, hv, rv⟩ := rK.look hd
  cases r1
  have g : DGet H a (kV k) (some v) := .inl ⟨_, k, .inl hv0, rfl, hv.symm⟩
  exact tail_any (ops := [_, u2]) (dict_typeIs I g) PySem.F.slot_dict_getitem.lookup (d_getItem hu I g r2 fun w' s' I' rw' => ⟨v, H, F, M, d, I', rw', Stp.refl R, rv, h⟩) hs
/-- y in d -/
theorem VO.inK (hu : X.A.units + 1 < cLine) {y : D} (hy : y = keyV k) (h : Q (.bl (lookK kvs k).isSome) M) : VO X (compareOp .In) y (.dic kvs) M Q := by
  intro pins s σ H F v1 v2 u1 u2 I R r1 r2 p1 p2
  subst hy
  cases p2 with
  | dic hF rK =>
    obtain rfl := rep_key p1
    cases r2
    refine d_in hu I (.inl ⟨_, k, .inl (R.sub _ _ hF), rfl, rfl⟩) r1 fun s' I' => ?_
    rw [rK.isSome]
    exact ⟨.bl _, H, F, M, _, I', rfl, Stp.refl R, .bl _, h⟩
/-- {} -/
theorem WE.dicM (h : ∀ p, M p = none → Q (.ref p) (mset M p (.dic []))) : WE X (.Dict [] [] pos) ρ M Q := .pe pe_dnewK fun σ H F S p hp =>
  ⟨F, _, _, Stp.newM S.good hp (.dic .nil), .ref p, h p (S.good.free hp)⟩
theorem WE.dicN (h : Q (.dic []) M) : WE X (.Dict [] [] pos) ρ M Q := .pe pe_dnewK fun σ H F S p hp =>
  ⟨_, M, _, Stp.new S.good hp, .dic upd_same .nil, h⟩
/-- o[i] = v by values -/
def VT (X : Cx) (x y d : D) (M : Mp) (R : Mp → Prop) : Prop :=
  ∀ (pins : Pins) (s : Shared) (σ : SS) (H F : Hp) (v1 v2 v3 : V) (u1 u2 u3 : Value), Inv X pins σ H s → Good X.K H F M → RelV v1 u1 → RelV v2 u2 → RelV v3 u3 → Rep X.K F v1 x → Rep X.K F v2 y → Rep X.K F v3 d →
    wpAny (model X.prog X.w) X.A (setItem u1 u2 u3) (fun _ s' => ∃ H' F' M', Inv X pins σ H' s' ∧ Stp X.K H F M H' F' M' ∧ R M') X.xe s
theorem WG.sub {R : En → Mp → Prop} (h : WE X o ρ M fun z M1 => WE X i ρ M1 fun y M2 => VT X z y d M2 fun M3 => R ρ M3)
    (ha : ∀ v, assign (.Subscript o i pos) X.env v = (do
      let ov ← holding [v] (eval o X.env)
      let iv ← holding [v, ov] (eval i X.env)
      standAt pos
      holding [v, ov, iv] (setItem ov iv v)
      release [v, ov, iv] []) := by intro _; rfl) : WG X (.Subscript o i pos) d ρ M R := by
  refine ⟨fun pins s σ H F v u I S r rp => ?_⟩
  rw [ha]
  refine wpAny_bind (wpAny_holding (thn (h.run pins s σ H F I S) fun ov s1 ⟨x, H1, F1, M1, z, I1, r1, t1, p1, q1⟩ => ?_))
  refine wpAny_bind (wpAny_holding (thn (q1.run pins s1 σ H1 F1 I1 (S.step t1)) fun iv s2 ⟨y, H2, F2, M2, y', I2, r2, t2, p2, q2⟩ => ?_))
  have t := t1.trans t2
  refine wpAny_bind (wpAny_standAt (wpAny_bind (wpAny_holding (thn (q2 pins s2 σ H2 F2 x y v ov iv u I2 t2.good r1 r2 r (t2.rep p1) p2 (t.rep rp)) fun _ s3 ⟨H3, F3, M3, I3, t3, q3⟩ => ?_))))
  exact wpAny_release ⟨σ, H3, I3, F3, M3, ρ, t.trans t3, (S.step t).step t3, q3⟩
theorem VT.dic (hu : X.A.units + 1 < cLine) {a : Addr} {y : D} {R : Mp → Prop} (hm : M a = some (.dic kvs)) (hy : y = keyV k) (hl : kvs.length < sizeLine) (h : R (mset M a (.dic (putG kvs k d)))) : VT X (.ref a) y d M R := by
  intro pins s σ H F v1 v2 v3 u1 u2 u3 I G r1 r2 r3 p1 p2 p3
  subst hy
  cases p1
  obtain rfl := rep_key p2
  cases r1
  obtain ⟨vs, hv, rK⟩ := G.dic hm
  exact d_setItem hu I (.inl ⟨vs, k, hv, rfl, by rw [rK.len]; exact hl, rfl⟩) r2 r3 fun s4 I4 => ⟨_, F, _, I4, Stp.write G hm (.dic (rK.put (k := k) p3)), h⟩
theorem VT.lst {a : Addr} {xs : List D} {j : Int} {n : Nat} {R : Mp → Prop} (hm : M a = some (.lst xs)) (hj : ixN xs.length j = some n) (h : R (mset M a (.lst (xs.set n d)))) : VT X (.ref a) (.int j) d M R := by
  intro pins s σ H F v1 v2 v3 u1 u2 u3 I G r1 r2 r3 p1 p2 p3
  cases p1
  cases p2
  obtain ⟨vs, hv, r⟩ := G.lst hm
  exact thn (set_list pins s σ H _ _ _ u1 u2 u3 (fun H' => H' = upd H a (.lst (vs.set n v3))) I r1 r2 r3 ⟨a, vs, j, n, rfl, rfl, hv, by rw [r.length]; exact hj, rfl⟩) fun _ s' ⟨H', I', e⟩ => by
    subst e
    exact ⟨_, F, _, I', Stp.write G hm (.lst (r.set n p3)), h⟩
/-- d.setdefault(k, x) -/
theorem VM.setdef {a : Addr} {y : D} (hm : M a = some (.dic kvs)) (hy : y = keyV k) (hl : kvs.length < sizeLine) (h1 : ∀ d', lookK kvs k = some d' → Q d' M) (h2 : lookK kvs k = none → Q d (mset M a (.dic (putG kvs k d)))) : VM X "dict.setdefault" (.ref a) [y, d] M Q := by
  intro pins s σ H F v u vs us I R r1 p1 r2 p2
  subst hy
  cases p1
  cases p2 with
  | cons q1 p2 =>
    cases p2 with
    | cons q2 p2 =>
      cases p2
      obtain rfl := rep_key q1
      cases r2 with
      | cons a1 r2 =>
        cases r2 with
        | cons a2 r2 =>
          cases r2
          cases r1
          obtain ⟨ws, hw, rK⟩ := R.dic hm
          refine d_setd I hw a1 a2 (by rw [rK.len]; exact hl) (fun v hv w' s' I' rw' => ?_) fun hn w' s' I' rw' => ?_
          · cases hk : lookK kvs k with
            | none => rw [rK.lookN hk] at hv; cases hv
            | some d' =>
              obtain ⟨v', hv', rv⟩ := rK.look hk
              rw [hv] at hv'
              cases hv'
              exact ⟨v, H, F, M, d', I', rw', Stp.refl R, rv, h1 d' hk⟩
          · cases hk : lookK kvs k with
            | some d' =>
              obtain ⟨v', hv', rv⟩ := rK.look hk
              rw [hn] at hv'
              cases hv'
            | none => exact ⟨_, _, F, _, d, I', rw', Stp.write R hm (.dic (rK.put q2)), q2, h2 hk⟩
theorem VC.lenD {a : Addr} (hm : M a = some (.dic kvs)) (h : Q (.int kvs.length) M) : VC X (.builtin "len") [.ref a] M Q :=
  .call call_lenD fun H F vs R p => by
    cases p with
    | cons q p =>
      cases p
      cases q
      obtain ⟨ws, hw, rK⟩ := R.dic hm
      exact ⟨a, ws, rfl, hw, F, M, _, Stp.refl R, .int _, by rw [rK.len]; exact h⟩
end
end TL
end
section
set_option maxRecDepth 100000
/-! TN: dicts whose keys are tuples, over tree values. -/
namespace TL
open PySem PySem.Spec PyProof.Rows L2

theorem kdo_at {P : Program} {w w' : World} {H : Hp} {h : Heap} {a : Addr} {xs : KX} (ok : HOk P w H h) (e : H a = some (KDO w' a xs)) :
    ∃ o es ep, h.get? a = some o ∧ o.ExactDict ∧ o.data = .dict es ep ∧ es.toList = xs.map (entK w') ∧ (xs.map (·.1)).Nodup ∧ xs.length ≤ sizeLine ∧ (a == sysModules) = false := by
  have x : ObjOk P w H h a (.ext fun h => ∃ o es ep, h.get? a = some o ∧ o.ExactDict ∧ o.data = .dict es ep ∧ es.toList = xs.map (entK w') ∧ (xs.map (·.1)).Nodup ∧ xs.length ≤ sizeLine ∧ (a == sysModules) = false) := ok a _ e
  exact x.1
theorem kdo_ok {P : Program} {w w' : World} {H : Hp} {h : Heap} {a : Addr} {xs : KX} {o : Obj} {es : Array DictEntry} {ep : Nat} (h1 : h.get? a = some o) (h2 : o.ExactDict) (h3 : o.data = .dict es ep) (h4 : es.toList = xs.map (entK w'))
    (h5 : (xs.map (·.1)).Nodup) (h6 : xs.length ≤ sizeLine) (h7 : (a == sysModules) = false) : ObjOk P w H h a (KDO w' a xs) :=
  ⟨⟨o, es, ep, h1, h2, h3, h4, h5, h6, h7⟩, ⟨o, h1⟩, fun g g' z k => let ⟨o, es, ep, a1, r⟩ := z; ⟨o, es, ep, k _ a1, r⟩⟩

section
variable {X : Cx} {pins : Pins} {σ : SS} {H F : Hp} {M : Mp} {ρ : En} {s : Shared} {Q : DQ}
mutual
/-- a value that stands for data is the key of that data -/
theorem nested_of (I : Inv X pins σ H s) (g : Sub F H) : ∀ {v : V} {d : D} {u : Value} {k : NestedKey}, Rep X.K F v d → RelV v u → nkey d = some k → NestedIs s.heap k u
  | _, _, _, _, .non, r, e => by cases r; cases e; exact .none
  | _, _, _, _, .bl b, r, e => by cases r; cases e; exact .bool rfl
  | _, _, _, _, .int i, r, e => by obtain ⟨t, rfl⟩ := r; cases e; exact .int _ _
  | _, _, _, _, .str x, r, e => by obtain ⟨t, rfl⟩ := r; cases e; exact .text _ _
  | _, _, _, _, .ty n, r, e => by cases e
  | _, _, _, _, .ref n, r, e => by cases e
  | _, _, _, _, .lst _ _, r, e => by cases e
  | _, _, _, _, .ins _ _, r, e => by cases e
  | _, _, _, _, .dic _ _, r, e => by cases e
  | _, _, _, _, .xn _ _, r, e => by cases e
  | _, _, _, _, .tun _ _ _ _, r, e => by cases e
  | _, _, _, k, .tup (ds := ds) q p, r, e => by
    cases r
    have e' : (nkeys ds).map NestedKey.tup = some k := e
    cases hk : nkeys ds with
    | none => rw [hk] at e'; cases e'
    | some ks =>
      rw [hk] at e'
      cases e'
      obtain ⟨its, rv, ⟨o, ho, hc, n, hd⟩, _⟩ := I.tuple (g.sqT q)
      exact .tup ho hc hd (by simpa using nested_all I g p rv hk)
theorem nested_all (I : Inv X pins σ H s) (g : Sub F H) : ∀ {vs : List V} {ds : List D} {us : List Value} {ks : List NestedKey}, Reps X.K F vs ds → Vals vs us → nkeys ds = some ks → NestedAll s.heap ks us
  | _, _, _, _, .nil, r, e => by cases r; cases e; exact .nil
  | _, _, _, ks, .cons (d := d) (ds := ds) a p, r, e => by
    cases r with
    | cons r1 r2 =>
      have e' : (match nkey d, nkeys ds with | some k, some ks => some (k :: ks) | _, _ => none) = some ks := e
      cases h1 : nkey d with
      | none => rw [h1] at e'; cases e'
      | some k =>
        cases h2 : nkeys ds with
        | none => rw [h1, h2] at e'; cases e'
        | some ks' =>
          rw [h1, h2] at e'
          cases e'
          exact .cons (nested_of I g a r1 h1) (nested_all I g p r2 h2)
end
theorem repX_is (I : Inv X pins σ H s) (g : Sub F H) : ∀ {xs : KX} {ds : List (D × D)}, RepX X.K F xs ds → ∀ x ∈ xs, (nestedKind X.prog X.w).is s.heap x.1 x.2.1
  | _, _, .nil, x, h => nomatch h
  | _, _, .cons e1 e2 r1 _ _ r, x, h => by
    rcases List.mem_cons.mp h with rfl | h
    · exact ⟨nested_of I g r1 rfl e1, e2⟩
    · exact repX_is I g r x h
/-- the dict at a, as the library's rules want it -/
theorem kd_dict (I : Inv X pins σ H s) (G : Good X.K H F M) {a : Addr} {ds : List (D × D)} (hm : M a = some (.kd X.w ds)) :
    ∃ xs, H a = some (KDO X.w a xs) ∧ RepX X.K F xs ds ∧ s.heap.DictOfH (nestedKind X.prog X.w) a xs ∧ xs.length ≤ sizeLine ∧ (a == sysModules) = false := by
  obtain ⟨o, ho, ro⟩ := G.real a _ hm
  generalize em : MO.kd X.w ds = m at ro
  cases ro with
  | @kd w' a' xs ds' r =>
    cases em
    have ho' : H a = some (KDO X.w a' xs) := ho
    have x : ObjOk X.prog X.w H s.heap a (.ext fun h => ∃ o es ep, h.get? a' = some o ∧ o.ExactDict ∧ o.data = .dict es ep ∧ es.toList = xs.map (entK X.w) ∧ (xs.map (·.1)).Nodup ∧ xs.length ≤ sizeLine ∧ (a' == sysModules) = false) := I.hok a _ ho'
    have ea : a' = a := Classical.byContradiction fun ne => by
      have q := x.2.2 s.heap (PySem.W.hideAll s.heap [a']) x.1 fun o e => PySem.W.hideAll_get [a'] e (by simpa using fun z => ne z.symm)
      obtain ⟨o, _, _, q, _⟩ := q
      rw [PySem.W.hideAll_none [a'] (List.mem_singleton.mpr rfl)] at q
      cases q
    subst ea
    obtain ⟨⟨o, es, ep, h1, h2, h3, h4, h5, h6, h7⟩, _⟩ := x
    exact ⟨xs, ho', r, ⟨o, es, ep, h1, h2, h3, h4, repX_is I G.sub r, h5⟩, h6, h7⟩
  | _ => cases em
end
def lookX (ds : List (D × D)) (k : NestedKey) : Option D := (ds.find? fun p => decide (nkey p.1 = some k)).map (·.2)
section
variable {K : PySem.W.Frag} {F : Hp} {xs : KX} {ds : List (D × D)} {k : NestedKey}
theorem RepX.look (r : RepX K F xs ds) {d : D} (h : lookX ds k = some d) : ∃ b u v, atKey xs k = some (b, u) ∧ RelV v u ∧ Rep K F v d := by
  induction xs generalizing ds with
  | nil => cases r; cases h
  | cons p xs ih =>
    cases r with
    | @cons k' a u v kd d' _ ds' e1 e2 r1 r2 r3 r =>
      by_cases e : k' = k
      · subst e
        simp [lookX, e1] at h
        subst h
        exact ⟨a, u, v, by simp [atKey], r2, r3⟩
      · simp [lookX, e1, e] at h
        obtain ⟨b, u', v', h1, h2, h3⟩ := ih r (by simpa [lookX] using h)
        exact ⟨b, u', v', by simpa [atKey, e] using h1, h2, h3⟩
theorem RepX.lookN (r : RepX K F xs ds) (h : lookX ds k = none) : atKey xs k = none := by
  induction xs generalizing ds with
  | nil => rfl
  | cons p xs ih =>
    cases r with
    | @cons k' a u v kd d' _ ds' e1 e2 r1 r2 r3 r =>
      by_cases e : k' = k
      · subst e
        simp [lookX, e1] at h
      · simp [lookX, e1, e] at h
        have := ih r (by simpa [lookX] using h)
        simpa [atKey, e] using this
theorem RepX.len (r : RepX K F xs ds) : xs.length = ds.length := by
  induction xs generalizing ds with
  | nil => cases r; rfl
  | cons p xs ih =>
    cases r with
    | cons _ _ _ _ _ r => rw [List.length_cons, List.length_cons, ih r]
theorem RepX.snoc (r : RepX K F xs ds) {a : Addr} {u : Value} {v : V} {kd d : D} (e1 : nkey kd = some k) (e2 : k.depth ≤ 8) (r1 : Rep K F (.ref a) kd) (r2 : RelV v u) (r3 : Rep K F v d) : RepX K F (xs ++ [(k, a, u)]) (ds ++ [(kd, d)]) := by
  induction xs generalizing ds with
  | nil => cases r; exact .cons e1 e2 r1 r2 r3 .nil
  | cons p xs ih =>
    cases r with
    | cons a1 a2 a3 a4 a5 r => exact .cons a1 a2 a3 a4 a5 (ih r)
end
section
variable {X : Cx} {pins : Pins} {σ : SS} {H F : Hp} {M : Mp} {ρ : En} {s : Shared} {Q : DQ} {ds : List (D × D)} {k : NestedKey} {d : D} {ks : List D} {a : Addr} {pos : Pos}
/-- {}, to be one with tuple keys -/
theorem WE.kdM (h : ∀ p, M p = none → Q (.ref p) (mset M p (.kd X.w []))) : WE X (.Dict [] [] pos) ρ M Q := by
  refine ⟨fun pins s σ H F I S => ?_⟩
  have hf := I.fresh
  have hb : (s.heap.objs.size == sysModules) = false := beq_eq_false_iff_ne.mpr (Nat.ne_of_gt I.big)
  refine wpAny_Dict_empty ⟨.ref s.heap.objs.size, _, F, _, _, I.laid (a := s.heap.objs.size) (o := KDO X.w s.heap.objs.size []) (t' := s.toks) (fun _ _ q => Heap.get?_push_of_some _ q) (Nat.le_refl _) ?_, rfl, Stp.newM S.good hf (.kd .nil), .ref _, h _ (S.good.free hf)⟩
  exact kdo_ok (Heap.get?_push_size _ rfl) ⟨rfl, rfl, rfl⟩ rfl rfl List.nodup_nil (Nat.zero_le _) hb
/-- the room that a tuple key asks -/
theorem room8 {A : Around} {j : Nat} (hr : GRoom j A) : (nestedKind X.prog X.w).room A.in1 := by
  have := hr.room.un
  show A.units + 1 + 8 < cLine
  omega
theorem VI.getX {j : Nat} (hr : GRoom j X.A) {y : D} (hm : M a = some (.kd X.w ds)) (hy : nkey y = some k) (hyt : ∃ ys, y = .tup ys) (h8 : k.depth ≤ 8) (hd : lookX ds k = some d) (h : Q d M) : VI X (.ref a) y M Q := by
  intro va sl pins s σ H F v1 v2 u1 u2 I R r1 r2 p1 p2 hs
  obtain ⟨ys, rfl⟩ := hyt
  obtain ⟨xs, hx, rX, dd, hl, hsm⟩ := kd_dict I R hm
  cases p1
  cases r1
  have hk := nested_of I R.sub p2 r2 hy
  cases p2 with
  | tup q p =>
    cases r2
    obtain ⟨b, u, v, e1, e2, e3⟩ := rX.look hd
    exact tail_any (ops := [_, _]) dd.typeIs PySem.F.slot_dict_getitem.lookup (wpAny_getItem_heap (room8 hr) ⟨hk, h8⟩ dd e1 ⟨v, H, F, M, d, I.tok _, e2, Stp.refl R, e3, h⟩) hs
theorem VO.inX {j : Nat} (hr : GRoom j X.A) {y : D} (hm : M a = some (.kd X.w ds)) (hy : nkey y = some k) (hyt : ∃ ys, y = .tup ys) (h8 : k.depth ≤ 8) (h : Q (.bl (lookX ds k).isSome) M) : VO X (compareOp .In) y (.ref a) M Q := by
  intro pins s σ H F v1 v2 u1 u2 I R r1 r2 p1 p2
  obtain ⟨ys, rfl⟩ := hyt
  obtain ⟨xs, hx, rX, dd, hl, hsm⟩ := kd_dict I R hm
  cases p2
  cases r2
  have hk := nested_of I R.sub p1 r1 hy
  cases p1 with
  | tup q p =>
    cases r1
    refine wpAny_in_heap (room8 hr) ⟨hk, h8⟩ hsm dd ?_
    have e : (atKey xs k).isSome = (lookX ds k).isSome := by
      cases hd : lookX ds k with
      | none => rw [rX.lookN hd]; rfl
      | some d => obtain ⟨b, u, v, e1, _⟩ := rX.look hd; rw [e1]; rfl
    rw [e]
    exact ⟨.bl _, H, F, M, _, I.tok _, rfl, Stp.refl R, .bl _, h⟩
theorem TyIs.kd (hm : M a = some (.kd X.w ds)) : TyIs X M (.ref a) "dict" := by
  intro pins s σ H F v u I R r1 p1
  obtain ⟨xs, hx, rX, dd, hl, hsm⟩ := kd_dict I R hm
  cases p1
  cases r1
  refine ⟨dd.typeIs, fun b e => ?_⟩
  cases e
  obtain ⟨o, es, ep, h1, h2, _⟩ := dd
  exact ⟨o, h1, h2.2.1⟩
/-- the dict is written -/
theorem kd_write (I : Inv X pins σ H s) (G : Good X.K H F M) (hm : M a = some (.kd X.w ds)) {h' : Heap} {t' : Nat} {xs' : KX} {ds' : List (D × D)} (hs : Heap.SameBut a s.heap h') (dd : h'.DictOfH (nestedKind X.prog X.w) a xs') (hl : xs'.length ≤ sizeLine) (rX : RepX X.K F xs' ds') :
    Inv X pins σ (upd H a (KDO X.w a xs')) { s with heap := h', toks := t' } ∧ Stp X.K H F M (upd H a (KDO X.w a xs')) F (mset M a (.kd X.w ds')) := by
  obtain ⟨xs, hx, _, _, _, hsm⟩ := kd_dict I G hm
  obtain ⟨o, es, ep, h1, h2, h3, h4, _, h5⟩ := dd
  exact ⟨I.write (x := a) (e := a) (by rw [hx]; exact True.intro) (.inl rfl) (fun b q hb z => (hs.2 b hb).trans z) ⟨o, h1⟩ (kdo_ok h1 h2 h3 h4 h5 hl hsm), Stp.write G hm (.kd rX)⟩
theorem VM.setdefX {j : Nat} (hr : GRoom j X.A) {y : D} (hm : M a = some (.kd X.w ds)) (hy : nkey y = some k) (hyt : ∃ ys, y = .tup ys) (h8 : k.depth ≤ 8) (hl : ds.length < sizeLine)
    (h1 : ∀ d', lookX ds k = some d' → Q d' M) (h2 : lookX ds k = none → Q d (mset M a (.kd X.w (ds ++ [(y, d)])))) : VM X "dict.setdefault" (.ref a) [y, d] M Q := by
  intro pins s σ H F v u vs us I R r1 p1 r2 p2
  obtain ⟨ys, rfl⟩ := hyt
  obtain ⟨xs, hx, rX, dd, hl', hsm⟩ := kd_dict I R hm
  cases p1
  cases r1
  cases p2 with
  | cons q1 p2 =>
    cases p2 with
    | cons q2 p2 =>
      cases p2
      cases r2 with
      | cons a1 r2 =>
        cases r2 with
        | cons a2 r2 =>
          cases r2
          have hk := nested_of I R.sub q1 a1 hy
          have q1' := q1
          cases q1 with
          | tup q p =>
            cases a1
            refine call_setdefault_heap (hsz := hl') (room8 hr) ⟨hk, h8⟩ hsm dd (fun p hp => ?_) fun hn h' dd' hs => ?_
            · cases hd : lookX ds k with
              | none => rw [rX.lookN hd] at hp; cases hp
              | some d' =>
                obtain ⟨b, u, v, e1, e2, e3⟩ := rX.look hd
                rw [hp] at e1
                cases e1
                exact ⟨v, H, F, M, d', I.tok _, e2, Stp.refl R, e3, h1 d' hd⟩
            · cases hd : lookX ds k with
              | some d' =>
                obtain ⟨b, u, v, e1, e2, e3⟩ := rX.look hd
                rw [hn] at e1
                cases e1
              | none =>
                rw [storedH_new hn] at dd'
                obtain ⟨J, t⟩ := kd_write (t' := s.toks + (nestedKind X.prog X.w).draws k) I R hm hs dd' (by rw [List.length_append, rX.len]; exact hl) (rX.snoc hy h8 q1' a2 q2)
                exact ⟨_, _, F, _, d, J, a2, t, q2, h2 hd⟩
theorem VC.lenX (hm : M a = some (.kd X.w ds)) (h : Q (.int ds.length) M) : VC X (.builtin "len") [.ref a] M Q := by
  intro pins s σ H F vs us I R r1 p1
  cases p1 with
  | cons q p =>
    cases p
    cases r1 with
    | cons r1 r2 =>
      cases r2
      obtain ⟨xs, hx, rX, dd, hl, hsm⟩ := kd_dict I R hm
      cases q
      cases r1
      have hz := sizeLine_eq
      refine PySem.call_len_dictH hsm dd (by rw [hz] at hl; omega) ?_
      rw [rX.len]
      exact ⟨.int ds.length, H, F, M, _, I.tok _, ⟨_, rfl⟩, Stp.refl R, .int _, h⟩
end
end TL
end
section
set_option maxRecDepth 100000
/-! TS: set(x) of ints and texts; sorted(set(x)), len(set(x)), over tree values. -/
namespace TL
open PySem PySem.Spec PyProof.Rows L2

instance memK (k : Key) (l : List Key) : Decidable (k ∈ l) := decidable_of_iff ((l.any fun x => decide (x = k)) = true) (by simp)
/-- the key that an element is -/
def elK (e : Int × Value) : Key := match e.2 with
  | .int k _ => .inl k
  | .str x _ => .inr x
  | _ => .inl 0
def GoodK (w : World) (e : Int × Value) : Prop := ∃ k, RelV (kV k) e.2 ∧ e.1 = keyH w k
theorem elK_of {k : Key} {e : Int × Value} (r : RelV (kV k) e.2) : elK e = k := by
  obtain ⟨h, v⟩ := e
  cases k with
  | inl i => obtain ⟨t, q⟩ := r; simp only at q; subst q; rfl
  | inr x => obtain ⟨t, q⟩ := r; simp only at q; subst q; rfl
theorem scan_of {k : Key} {v : Value} (r : RelV (kV k) v) : v.scannable = true := by
  cases k with
  | inl i => obtain ⟨t, rfl⟩ := r; rfl
  | inr x => obtain ⟨t, rfl⟩ := r; rfl
/-- the set of keys at a: its table rises and can be walked -/
def SetG (w : World) (h : Heap) (a : Addr) (ks : List Key) : Prop :=
  ∃ o es ep t, h.get? a = some o ∧ o.ExactSet ∧ o.data = .set es ep t ∧ (∀ e ∈ es.toList, GoodK w e) ∧ (es.toList.map elK).Perm ks ∧ ks.Nodup ∧ ks.length < scanBound ∧ t.fits es.size = true ∧ Ris t.place.toList ∧ (w.params.followText "set-order" = true ∨ t.led = true)
section
variable {P : Program} {w : World} {h h' : Heap} {a : Addr} {ks : List Key}
theorem SetG.at (R : SetG w h a ks) (k : ∀ o, h.get? a = some o → h'.get? a = some o) : SetG w h' a ks := let ⟨o, es, ep, t, e, r⟩ := R; ⟨o, es, ep, t, k o e, r⟩
theorem goodK_elems {l : List (Int × Value)} (g : ∀ e ∈ l, GoodK w e) : ElemsOf (mixKind P w) l := fun e he => by
  obtain ⟨k, r, hh⟩ := g e he
  exact ⟨⟨k, kV_is r, hh⟩, scan_of r⟩
theorem goodK_is {e : Int × Value} (g : GoodK w e) (k : Key) : (mixKind P w).is k e.2 = true ↔ elK e = k := by
  obtain ⟨k0, r, hh⟩ := g
  rw [elK_of r]
  exact ⟨fun q => (mixKind P w).inj e.2 k0 k (kV_is r) q, fun q => by subst q; exact kV_is r⟩
theorem goodK_mem {l : List (Int × Value)} (g : ∀ e ∈ l, GoodK w e) (k : Key) : k ∈ l.map elK ↔ ∃ e ∈ l, (mixKind P w).is k e.2 = true := by
  rw [List.mem_map]
  exact ⟨fun ⟨e, he, q⟩ => ⟨e, he, (goodK_is (g e he) k).2 q⟩, fun ⟨e, he, q⟩ => ⟨e, he, (goodK_is (g e he) k).1 q⟩⟩
theorem SetG.size (R : SetG w h a ks) : ∃ o es ep t, h.get? a = some o ∧ o.ExactSet ∧ o.data = .set es ep t ∧ t.fits es.size = true ∧ es.size = ks.length := by
  obtain ⟨o, es, ep, t, e, x, d, _, p, _, _, f, _⟩ := R
  exact ⟨o, es, ep, t, e, x, d, f, by rw [← p.length_eq, List.length_map, Array.length_toList]⟩
end
section
variable {P : Program} {w : World} {A : Around} {E : Value → Shared → Prop} {s : Shared} {a : Addr} {ks : List Key}
/-- the table is laid anew, where it is too full -/
theorem setG_tail {o : Obj} {es : Array (Int × Value)} {ep : Nat} {t : SetTable} (eo : s.heap.get? a = some o) (ex : o.ExactSet) (ed : o.data = .set es ep t) {es1 : Array (Int × Value)} {t2 : SetTable} {ks' : List Key}
    (g1 : ∀ e ∈ es1.toList, GoodK w e) (p1 : (es1.toList.map elK).Perm ks') (n1 : ks'.Nodup) (b1 : ks'.length < scanBound) (f2 : t2.fits es1.size = true) (r2 : Ris t2.place.toList) (l2 : w.params.followText "set-order" = true ∨ t2.led = true)
    {dum : Bool} {g : Bool → Sem Unit} (hg : ∀ (b : Bool) (s₁ : Shared) (Q' : Unit → Shared → Prop), Q' () s₁ → wpAny (model P w) A (g b) Q' E s₁) {R : Option Bool → Shared → Prop}
    (hR : ∀ h', Heap.SameBut a s.heap h' → SetG w h' a ks' → R (some true) { s with heap := h' }) :
    wpAny (model P w) A (do
        storeSet a es1 t2
        if (!dum && t2.tooFull) = true then do
            g (relayAll t2 es1 (SetTable.grown es1.size)).2.2
            storeSet a (relayAll t2 es1 (SetTable.grown es1.size)).1 (relayAll t2 es1 (SetTable.grown es1.size)).2.1
            pure (some true)
          else pure (some true)) R E s := by
  have z1 : es1.size = ks'.length := by rw [← p1.length_eq, List.length_map, Array.length_toList]
  have b2 : es1.size < scanBound := by rw [z1]; exact b1
  refine wpAny_bind (wpAny_storeSet_of eo ed ?_ (fits_of_scanBound b2))
  have o1 := store_at (es' := es1) (t' := t2) eo ed
  have u1 := Heap.SameBut.update s.heap a (Obj.putSet es1 t2)
  split
  · have pm := relayAll_perm t2 es1 (SetTable.grown es1.size)
    have q1 := relayAll_fits t2 es1 (SetTable.grown es1.size)
    have q2 := relayAll_ris t2 es1 (SetTable.grown es1.size)
    have q3 := relayAll_led t2 es1 (SetTable.grown es1.size)
    generalize relayAll t2 es1 (SetTable.grown es1.size) = Z at pm q1 q2 q3 ⊢
    obtain ⟨es2, t3, gave⟩ := Z
    dsimp only at pm q1 q2 q3 ⊢
    have z2 : es2.size = es1.size := by rw [← Array.length_toList, pm.length_eq, Array.length_toList]
    refine wpAny_bind (hg _ _ _ (wpAny_bind (wpAny_storeSet_of o1 rfl (wpAny_pure (hR _ (u1.trans (Heap.SameBut.update _ a _)) ?_)) (fits_of_scanBound (by rw [z2]; exact b2)))))
    exact ⟨_, es2, _, t3, store_at (es' := es2) (t' := t3) o1 rfl, ex, rfl, fun e he => g1 e (pm.mem_iff.mp he), (pm.map elK).trans p1, n1, b1, q1, q2, l2.imp id fun z => by rw [q3]; exact z⟩
  · exact wpAny_pure (hR _ u1 ⟨_, es1, _, t2, o1, ex, rfl, g1, p1, n1, b1, f2, r2, l2⟩)
/-- a key is added -/
theorem setG_add {k : Key} {v : Value} {Q : Bool → Shared → Prop} (R : SetG w s.heap a ks) (rv : RelV (kV k) v) (room : ks.length + 1 < scanBound)
    (hQ : ∀ h', Heap.SameBut a s.heap h' → SetG w h' a (if k ∈ ks then ks else ks ++ [k]) → ∀ b, Q b { s with heap := h' }) : wpAny (model P w) A (setAddHashed a v ((mixKind P w).hash k)) Q E s := by
  obtain ⟨o, es, ep, t, eo, ex, ed, g, pm0, nd, bd, ef, er, el⟩ := R
  have hkey : (mixKind P w).is k v = true := kV_is rv
  have hsc := scan_of rv
  have hel : ElemsOf (mixKind P w) es.toList := goodK_elems g
  have z0 : es.size = ks.length := by rw [← pm0.length_eq, List.length_map, Array.length_toList]
  have b0 : es.size < scanBound := by rw [z0]; exact bd
  unfold setAddHashed setAddHashedIn
  refine wpAny_holding (wpAny_bind (wpAny_setState_of eo ed ef ?_))
  dsimp only
  rw [byScan_of hsc b0 hel]
  simp only [↓reduceIte]
  unfold setAddByScan
  refine wpAny_bind (wpAny_bind (wpAny_rule (wpAny_bind (wpAny_setScan_of hkey eo ed ef hel ?_))))
  cases hfi : List.findIdx? (fun e => (mixKind P w).is k e.2) es.toList with
  | some j =>
    dsimp only
    obtain ⟨hj, pj, _⟩ := List.findIdx?_eq_some_iff_getElem.mp hfi
    have hm : k ∈ ks := pm0.mem_iff.mp ((goodK_mem (P := P) g k).2 ⟨es.toList[j], List.getElem_mem hj, pj⟩)
    have q := hQ s.heap (Heap.SameBut.refl a s.heap)
    rw [if_pos hm] at q
    exact wpAny_pure (wpAny_pure (q ⟨o, es, ep, t, eo, ex, ed, g, pm0, nd, bd, ef, er, el⟩ _))
  | none =>
    dsimp only
    have hm : k ∉ ks := fun z => by
      obtain ⟨e, he, q⟩ := (goodK_mem (P := P) g k).1 (pm0.mem_iff.mpr z)
      have c := List.findIdx?_eq_none_iff.mp hfi e he
      rw [q] at c
      cases c
    have hgw : ∀ (b : Bool) {s₁ : Shared} {Q' : Unit → Shared → Prop}, Q' () s₁ → wpAny (model P w) A (match b with | true => rule "set.scan.the-table-gave-way" | false => pure ()) Q' E s₁ :=
      fun b s₁ Q' q => by cases b <;> first | exact wpAny_pure q | exact wpAny_rule q
    have pm := layNew_perm t es ((mixKind P w).hash k) v
    have q1 := layNew_fits t es ((mixKind P w).hash k) v
    have q2 := layNew_ris t es ((mixKind P w).hash k) v er
    have q3 := layNew_led t es ((mixKind P w).hash k) v
    generalize layNew t es ((mixKind P w).hash k) v = Z at pm q1 q2 q3 ⊢
    obtain ⟨es1, t1, dum, gave⟩ := Z
    dsimp only at pm q1 q2 q3 ⊢
    rw [Array.toList_push] at pm
    have g1 : ∀ e ∈ es1.toList, GoodK w e := fun e he => by
      rcases List.mem_append.mp (pm.mem_iff.mp he) with z | z
      · exact g e z
      · rw [List.mem_singleton.mp z]; exact ⟨k, rv, rfl⟩
    have p1 : (es1.toList.map elK).Perm (ks ++ [k]) := by
      refine (pm.map elK).trans ?_
      rw [List.map_append]
      refine (pm0.append_right _).trans ?_
      rw [List.map_singleton, elK_of (e := ((mixKind P w).hash k, v)) rv]
    have n1 : (ks ++ [k]).Nodup := List.nodup_append.mpr ⟨nd, List.nodup_cons.mpr ⟨List.not_mem_nil, List.nodup_nil⟩, fun x hx y hy e => hm (by rw [← List.mem_singleton.mp hy, ← e]; exact hx)⟩
    have b1 : (ks ++ [k]).length < scanBound := by rw [List.length_append]; exact room
    have l1 : w.params.followText "set-order" = true ∨ t1.led = true := el.imp id fun z => by rw [q3]; exact z
    have fin : ∀ h', Heap.SameBut a s.heap h' → SetG w h' a (ks ++ [k]) → Q true { s with heap := h' } := fun h' sb r => by
      have q := hQ h' sb
      rw [if_neg hm] at q
      exact q r true
    refine wpAny_bind (hgw _ ?_)
    split
    · refine wpAny_bind ?_
      rw [hashByValue_scannable 8 hsc]
      refine wpAny_pure (setG_tail eo ex ed g1 p1 n1 b1 ?_ ?_ ?_ ?_ fun h' sb r => ?_)
      · first | (split <;> first | exact q1 | exact SetTable.fits_plain_off q1) | exact q1
      · first | (split <;> exact q2) | exact q2
      · first | (split <;> exact l1) | exact l1
      · intro b s₁ Q' q; cases b <;> first | exact wpAny_pure q | exact wpAny_rule q
      · dsimp only
        exact wpAny_pure (fin h' sb r)
    · refine wpAny_bind (wpAny_pure ?_)
      simp only [↓reduceIte]
      refine setG_tail eo ex ed g1 p1 n1 b1 q1 q2 l1 ?_ fun h' sb r => ?_
      · intro b s₁ Q' q; cases b <;> first | exact wpAny_pure q | exact wpAny_rule q
      · dsimp only
        exact wpAny_pure (fin h' sb r)
/-- the keys, each once, in the order of their coming -/
def onceK : List Key → List Key → List Key
  | acc, [] => acc
  | acc, k :: ks => onceK (if k ∈ acc then acc else acc ++ [k]) ks
theorem once_len : ∀ (l acc : List Key), (onceK acc l).length ≤ acc.length + l.length
  | [], acc => by simp [onceK]
  | k :: l, acc => by
    have h := once_len l (if k ∈ acc then acc else acc ++ [k])
    unfold onceK
    split at h <;> simp_all <;> omega
/-- the update's loop -/
theorem setG_loop {I : Addr} {fp wr : List Addr} {G : Array GenState → Array GenState → Prop} {n : Nat} {Pv : Nat → Value → Prop} {St : Nat → Shared → Prop} {R : Result → Shared → Prop} (W : WalksS P w A.in1 I fp wr G n Pv St) (S : Addr) (hSf : S ∉ fp) (l : List Key)
    (hn : n = l.length) (hval : ∀ i v, Pv i v → ∃ k, l[i]? = some k ∧ RelV (kV k) v) :
    ∀ (j i : Nat) (acc : List Key) (s : Shared), n - i = j → i ≤ n → St i s → SetG w s.heap S acc → acc.length + (n - i) + 1 < scanBound →
      (∀ s', Moved (S :: wr) G s s' → SetG w s'.heap S (onceK acc (l.drop i)) → R (.ok (.ret .none)) s') → codeAny (model P w) A (.builtin "set.update.loop" ⟨[.ref S, .ref I], []⟩) R s := by
  have hSw : S ∉ wr := fun h => hSf (W.sub _ h)
  have hsub : ∀ b ∈ wr, b ∈ S :: wr := fun b hb => List.mem_cons_of_mem _ hb
  intro j
  induction j with
  | zero =>
    intro i acc s hj hi hst hS hb hR
    obtain rfl : i = n := by omega
    refine codeAny_builtin F.entry_set_update_loop ?_
    rw [Around.under_plainId F.plain_set_update_loop _]
    show wpAny _ A.in1 (pyNext (.ref I) >>= _) _ _ s
    refine wpAny_bind (W.done s _ _ hst fun s' hm => ?_)
    show wpAny _ A.in1 (ret Value.none) _ _ s'
    rw [List.drop_of_length_le (by omega)] at hR
    exact wpAny_pure (hR s' (hm.mono hsub) (hS.at fun o e => hm.heap S o hSw e))
  | succ j ih =>
    intro i acc s hj hi hst hS hb hR
    have hlt : i < n := by omega
    refine codeAny_builtin F.entry_set_update_loop ?_
    rw [Around.under_plainId F.plain_set_update_loop _]
    show wpAny _ A.in1 (pyNext (.ref I) >>= _) _ _ s
    refine wpAny_bind (W.item i s _ _ hlt hst fun v s' hP hst' hm => ?_)
    obtain ⟨k, hk, rv⟩ := hval i v hP
    have hS' : SetG w s'.heap S acc := hS.at fun o e => hm.heap S o hSw e
    show wpAny _ A.in1 (holding [v] (setAdd S v) >>= _) _ _ s'
    refine wpAny_bind (wpAny_holding ?_)
    unfold setAdd
    refine wpAny_holding (wpAny_bind ((mixKind P w).pyHash (k := k) (kV_is rv) (setG_add (s := { s' with toks := s'.toks + 1 }) hS' rv (by omega) fun h' hsb hS2 _ => ?_)))
    have hd : l.drop i = k :: l.drop (i + 1) := by
      rw [List.drop_eq_getElem_cons (by omega)]
      have := List.getElem?_eq_getElem (l := l) (i := i) (by omega)
      rw [hk] at this
      rw [Option.some.inj this]
    rw [hd] at hR
    have hl : (if k ∈ acc then acc else acc ++ [k]).length ≤ acc.length + 1 := by split <;> simp
    refine wpAny_pure ⟨plainId_quiet F.plain_set_update_loop _, ih (i + 1) _ _ (by omega) hlt (W.frame _ s' _ _ hst' (Nat.le_succ _) fun b hb' o e => ?_) hS2 (by omega) fun s'' hm'' hS'' => ?_⟩
    · rw [hsb.2 b (fun h : b = S => hSf (by rw [← h]; exact hb'))]; exact e
    · refine hR s'' (Moved.trans W.gtrans ((hm.mono hsub).then_heap (Nat.le_succ _) fun b o hb' e => ?_) hm'') hS''
      rw [hsb.2 b (fun h : b = S => hb' (by rw [h]; exact List.mem_cons_self))]; exact e
end
end TL
end
section
set_option maxRecDepth 100000
/-! TS2: the call set(x). -/
namespace TL
open PySem PySem.Spec PyProof.Rows L2

theorem vals_at : ∀ {xs : List V} {us : List Value} {i : Nat} {u : Value}, Vals xs us → us[i]? = some u → ∃ x, xs[i]? = some x ∧ RelV x u
  | _, _, _, _, .nil, e => by simp at e
  | _, _, 0, _, .cons r _, e => by simp at e; subst e; exact ⟨_, rfl, r⟩
  | _, _, i + 1, u, .cons _ r, e => by
    obtain ⟨x, h1, h2⟩ := vals_at (i := i) (u := u) r (by simpa using e)
    exact ⟨x, by simpa using h1, h2⟩
/-- what iter(v) walks, from the state s on -/
def SrcIt (P : Program) (w : World) (s : Shared) (v : Value) (ks : List Key) : Prop :=
  ∀ (A' : Around) (E' : Value → Shared → Prop) (s1 : Shared) (Q' : Value → Shared → Prop), (∀ b o, s.heap.get? b = some o → s1.heap.get? b = some o) → s.heap.objs.size < s1.heap.objs.size →
    (∀ (ob : Obj) (fp : List Addr) (Pv : Nat → Value → Prop) (St : Nat → Heap → Prop), (∀ A'' : Around, A''.handled = none → PySem.Walks P w A'' s1.heap.objs.size fp [s1.heap.objs.size] ks.length Pv St) → (∀ b ∈ fp, b = s1.heap.objs.size ∨ b < s.heap.objs.size) →
      St 0 (s1.heap.push ob) → (∀ i u, Pv i u → ∃ k, ks[i]? = some k ∧ RelV (kV k) u) → Q' (.ref s1.heap.objs.size) { s1 with heap := s1.heap.push ob }) → wpAny (model P w) A' (pyIter v) Q' E' s1
theorem SrcIt.list {P : Program} {w : World} {s : Shared} {l : Addr} {its : List Value} {ks : List Key} (hl : s.heap.IsList l its.toArray) (hv : Vals (ks.map kV) its) : SrcIt P w s (.ref l) ks := by
  intro A' E' s1 Q' hk hz hQ
  obtain ⟨o, e, c, n, d⟩ := id hl
  have h1 : s1.heap.IsList l its.toArray := ⟨o, hk l o e, c, n, d⟩
  have hll : l < s.heap.objs.size := Heap.lt_size e
  have hlen : its.toArray.size = ks.length := by rw [List.size_toArray, ← hv.length, List.length_map]
  refine wpAny_pyIter_list h1 (hQ _ [s1.heap.objs.size, l] (fun i v => its.toArray[i]? = some v) (fun i h => h.IsListIter s1.heap.objs.size l i ∧ h.IsList l its.toArray) (fun A'' hA => by rw [← hlen]; exact PySem.Walks.list hA _ l (Nat.ne_of_lt (Nat.lt_trans hll hz)) its.toArray) (fun b hb => ?_) ⟨⟨_, Heap.get?_push_size _ rfl, rfl, rfl⟩, h1.push _⟩ fun i u hu => ?_)
  · rcases List.mem_cons.mp hb with z | z
    · exact .inl z
    · exact .inr (by rw [List.mem_singleton.mp z]; exact hll)
  · have hu' : its[i]? = some u := by simpa using hu
    obtain ⟨v, hv', rv⟩ := vals_at hv hu'
    rw [List.getElem?_map] at hv'
    cases hk : ks[i]? with
    | none => rw [hk] at hv'; cases hv'
    | some k => rw [hk] at hv'; cases hv'; exact ⟨k, rfl, rv⟩
theorem SrcIt.tuple {P : Program} {w : World} {s : Shared} {l : Addr} {its : List Value} {ks : List Key} (hl : s.heap.IsTuple l its.toArray) (hv : Vals (ks.map kV) its) : SrcIt P w s (.ref l) ks := by
  intro A' E' s1 Q' hk hz hQ
  obtain ⟨o, e, c, n, d⟩ := id hl
  have h1 : s1.heap.IsTuple l its.toArray := ⟨o, hk l o e, c, n, d⟩
  have hll : l < s.heap.objs.size := Heap.lt_size e
  have hlen : its.toArray.size = ks.length := by rw [List.size_toArray, ← hv.length, List.length_map]
  refine wpAny_pyIter_tuple h1 (hQ _ [s1.heap.objs.size, l] (fun i v => its.toArray[i]? = some v) (fun i h => h.IsTupleIter s1.heap.objs.size l i ∧ h.IsTuple l its.toArray) (fun A'' hA => by rw [← hlen]; exact PySem.Walks.tuple hA _ l (Nat.ne_of_lt (Nat.lt_trans hll hz)) its.toArray) (fun b hb => ?_) ⟨⟨_, Heap.get?_push_size _ rfl, rfl, rfl⟩, h1.push _⟩ fun i u hu => ?_)
  · rcases List.mem_cons.mp hb with z | z
    · exact .inl z
    · exact .inr (by rw [List.mem_singleton.mp z]; exact hll)
  · have hu' : its[i]? = some u := by simpa using hu
    obtain ⟨v, hv', rv⟩ := vals_at hv hu'
    rw [List.getElem?_map] at hv'
    cases hk : ks[i]? with
    | none => rw [hk] at hv'; cases hv'
    | some k => rw [hk] at hv'; cases hv'; exact ⟨k, rfl, rv⟩
theorem SrcIt.str {P : Program} {w : World} {s : Shared} {x : Str} {t : Tok} : SrcIt P w s (.str x t) (x.cps.toList.map fun c => .inr ⟨#[c]⟩) := by
  intro A' E' s1 Q' hk hz hQ
  refine wpAny_pyIter_str fun o St W st => hQ o _ _ St (fun A'' hA => by have := W A'' hA; rw [List.length_map, Array.length_toList]; exact this) (fun b hb => .inl (List.mem_singleton.mp hb)) st fun i u hu => ?_
  obtain ⟨c, tk, hc, rfl⟩ := hu
  exact ⟨.inr ⟨#[c]⟩, by rw [List.getElem?_map, Array.getElem?_toList, hc]; rfl, tk, rfl⟩
section
variable {P : Program} {w : World} {A : Around} {E : Value → Shared → Prop} {s : Shared}
set_option maxRecDepth 100000 in
set_option maxHeartbeats 3200000 in
/-- set(v) -/
theorem setG_call {v : Value} {T : String} {ks : List Key} {Q : Value → Shared → Prop} (hh : A.handled = none) (hT : ∀ s' : Shared, (∀ b o, s.heap.get? b = some o → s'.heap.get? b = some o) → s'.TypeIs v T) (h1 : isSubtype (.type T) (.type "set") = pure false) (h2 : isSubtype (.type T) (.type "frozenset") = pure false)
    (h3 : (Value.type T == Value.type "dict") = false) (src : SrcIt P w s v ks) (hb : ks.length + 1 < scanBound)
    (h : ∀ (h' : Heap) (tk : Nat), SetG w h' s.heap.objs.size (onceK [] ks) → (∀ b o, s.heap.get? b = some o → h'.get? b = some o) → Q (.ref s.heap.objs.size) { s with heap := h', toks := tk }) :
    wpAny (model P w) A (call (.type "set") [v]) Q E s := by
  obtain ⟨c, tl, hmro⟩ := F.called_set.mro
  have f1 := F.called_set.made
  have f2 := F.called_set.sub
  refine wpAny_call (codeAny_of_tree ?_)
  show wpAny _ _ (callAny (.type "set") _) _ _ _
  refine wpAny_pure ⟨Code.quiet_builtin _ (by decide +kernel), codeAny_builtin F.entry_type_call ?_⟩
  rw [Around.under_plain (weight_type_call_type "set" [v] []) rfl]
  have f3 := F.called_set.notType
  have f4 := F.called_set.canCreate
  have f5 := F.typeCall_set_1 v
  repeat (any_goals (first | assumption | wp_step))

  refine codeAny_mono (code_set_led1 v (E := E) (Q₁ := fun obj s₁ => obj = .ref s.heap.objs.size ∧ s₁ = { s with heap := s.heap.push { cls := .type "set", dict := none, data := .set #[] 0 (.fresh 0 0 (!w.params.followText "set-order")) } }) ⟨rfl, rfl⟩) fun r s₁ hr => ?_
  cases r with
  | error e => exact hr
  | ok fl =>
    cases fl with
    | ret obj =>
      obtain ⟨rfl, rfl⟩ := hr
      generalize hho : (s.heap.push { cls := .type "set", dict := none, data := .set #[] 0 (.fresh 0 0 (!w.params.followText "set-order")) }) = hp1
      have hS : hp1.get? s.heap.objs.size = some { cls := .type "set", dict := none, data := .set #[] 0 (.fresh 0 0 (!w.params.followText "set-order")) } := by rw [← hho]; exact Heap.get?_push_size _ rfl
      have hz1 : hp1.objs.size = s.heap.objs.size + 1 := by rw [← hho]; exact Heap.size_push ..
      have hk1 : ∀ b o, s.heap.get? b = some o → hp1.get? b = some o := fun b o e => by rw [← hho]; exact Heap.get?_push_of_some _ e
      have hT1 : Shared.TypeIs { s with heap := hp1 } (.ref s.heap.objs.size) "set" := ⟨_, hS, rfl⟩
      have f6 := F.called_set.init.lookup
      have f7 := F.called_set.init.bind (.ref s.heap.objs.size)
      repeat (any_goals (first | assumption | wp_step))

      refine codeAny_mono (codeAny_call_builtin (R := wants (fun r s₂ => r = .none ∧ ∃ h' tk, s₂ = { s with heap := h', toks := tk } ∧ SetG w h' s.heap.objs.size (onceK [] ks) ∧ (∀ b o, s.heap.get? b = some o → h'.get? b = some o)) E)
        F.called_set.init.plain F.entry_set_init (check_set_init_1 hT1 ?_)) fun r₂ s₂ hr₂ => ?_
      · have hv := hT { s with heap := hp1 } hk1
        unfold Builtin.«set.__init__» noKeywords Builtin.Frozenset.updateFrom
        generalize hPI : pyIter = PI
        wp_walk
        subst hPI

        refine src _ _ _ _ hk1 (by show _ < hp1.objs.size; omega) fun ob fp Pv St W hfp hst hval => ?_
        refine wpAny_bind (wpAny_runValue ?_)
        have hh3 : A.in1.in1.in1.handled = none := by simp [hh]
        have hSf : s.heap.objs.size ∉ fp := fun hm => by
          rcases hfp _ hm with z | z
          · have z' : s.heap.objs.size = hp1.objs.size := z
            rw [hz1] at z'
            exact Nat.succ_ne_self _ z'.symm
          · exact absurd z (Nat.lt_irrefl _)
        have hS2 : (hp1.push ob).get? s.heap.objs.size = some { cls := .type "set", dict := none, data := .set #[] 0 (.fresh 0 0 (!w.params.followText "set-order")) } := Heap.get?_push_of_some _ hS
        have hS0 : SetG w (hp1.push ob) s.heap.objs.size [] := ⟨_, #[], 0, _, hS2, ⟨rfl, rfl, rfl⟩, rfl, (fun e he => by simp at he), List.Perm.refl _, List.nodup_nil, (by decide), (by rfl), List.Pairwise.nil, by
          show _ ∨ (!w.params.followText "set-order") = true
          cases w.params.followText "set-order"
          · exact .inr rfl
          · exact .inl rfl⟩
        refine setG_loop (W _ hh3).toS s.heap.objs.size hSf ks rfl hval (ks.length - 0) 0 [] _ (by omega) (Nat.zero_le _) hst hS0 (by simpa using hb) fun s' hm hS' => ?_
        obtain ⟨h', g2, d', tk', os'⟩ := s'
        have eg : g2 = s.gens := hm.gens
        have ed : d' = s.drawn := hm.drawn
        have eo : os' = s.os := hm.os
        subst eg ed eo
        show wpAny _ _ _ _ _ _
        refine wpAny_pure ?_
        show wpAny _ _ (ret Value.none) _ _ _
        rw [List.drop_zero] at hS'
        refine wpAny_pure ⟨rfl, h', tk', rfl, hS', fun b o e => ?_⟩
        have hb0 : b < s.heap.objs.size := Heap.lt_size e
        exact hm.heap b o (by
          intro hbm
          rcases List.mem_cons.mp hbm with z | z
          · exact absurd z (Nat.ne_of_lt hb0)
          · have z' : b = hp1.objs.size := List.mem_singleton.mp z
            rw [hz1] at z'
            exact absurd z' (Nat.ne_of_lt (Nat.lt_succ_of_lt hb0))) (Heap.get?_push_of_some _ (hk1 b o e))
      · cases r₂ with
        | error e => exact hr₂
        | ok fl₂ =>
          cases fl₂ with
          | ret r =>
            obtain ⟨rfl, h', tk, rfl, hS', hk'⟩ := hr₂
            repeat (any_goals (first | assumption | wp_step))
            exact h _ _ hS' hk'
          | _ => exact hr₂.elim
    | _ => exact hr.elim
end
end TL
end
section
set_option maxRecDepth 100000
/-! TS3: sorted(set(x)), len(set(x)). -/
namespace TL
open PySem PySem.Spec PyProof.Rows L2

theorem vals_of_keys {w : World} : ∀ {l : List (Int × Value)}, (∀ e ∈ l, GoodK w e) → Vals ((l.map elK).map kV) (l.map (·.2))
  | [], _ => .nil
  | e :: l, g => by
    obtain ⟨k, r, _⟩ := g e List.mem_cons_self
    refine .cons ?_ (vals_of_keys fun e' he => g e' (List.mem_cons_of_mem _ he))
    rw [elK_of r]
    exact r
theorem vals_perm {us us' : List Value} (p : us'.Perm us) : ∀ {ks : List Key}, Vals (ks.map kV) us → ∃ ks' : List Key, ks'.Perm ks ∧ Vals (ks'.map kV) us' := by
  induction p with
  | nil => intro ks h; exact ⟨ks, List.Perm.refl _, h⟩
  | @cons x l1 l2 _ ih =>
    intro ks h
    cases ks with
    | nil => cases h
    | cons k ks =>
      cases h with
      | cons a h =>
        obtain ⟨ks', p', h'⟩ := ih h
        exact ⟨k :: ks', p'.cons k, .cons a h'⟩
  | @swap x y l =>
    intro ks h
    cases ks with
    | nil => cases h
    | cons k ks =>
      cases h with
      | cons a h =>
        cases ks with
        | nil => cases h
        | cons k2 ks =>
          cases h with
          | cons b h => exact ⟨k2 :: k :: ks, List.Perm.swap _ _ _, .cons b (.cons a h)⟩
  | trans _ _ ih1 ih2 =>
    intro ks h
    obtain ⟨k1, p1, h1⟩ := ih2 h
    obtain ⟨k2, p2, h2⟩ := ih1 h1
    exact ⟨k2, p2.trans p1, h2⟩
section
variable {P : Program} {w : World} {A : Around} {E : Value → Shared → Prop} {s : Shared} {a : Addr} {ks : List Key}
/-- sorted(s), up to the sort itself -/
theorem sortG (R : SetG w s.heap a ks) (hh : A.handled = none) {Q : Value → Shared → Prop} (hs : ∀ (s1 : Shared) (vs : List Value) (ks' : List Key), (∀ b o, s.heap.get? b = some o → s1.heap.get? b = some o) → s.heap.objs.size ≤ s1.heap.objs.size → s1.gens = s.gens → s1.os = s.os → ks'.Perm ks → Vals (ks'.map kV) vs →
      ∀ (A' : Around) (E' : Value → Shared → Prop), wpAny (model P w) A' (Builtin.«list.sort» ⟨[.ref s1.heap.objs.size], []⟩) (fun r s2 => r = .done (.ret .none) ∧ ∃ out, s2 = { s1 with heap := sortedHeap (s1.heap.push (seqObj "list" vs.toArray 0)) s1.heap.objs.size vs out } ∧ Q (.ref s1.heap.objs.size) s2) E' { s1 with heap := s1.heap.push (seqObj "list" vs.toArray 0) }) :
    wpAny (model P w) A (call (.builtin "sorted") [.ref a]) Q E s := by
  obtain ⟨o, es, ep, t, eo, ex, ed, g, pm0, nd, bd, ef, er, el⟩ := R
  have z0 : es.size = ks.length := by rw [← pm0.length_eq, List.length_map, Array.length_toList]
  have b0 : es.size < scanBound := by rw [z0]; exact bd
  refine Calls.call_function_entry kind_sorted plain_sorted entry_sorted (args_sorted1 _) ?_
  unfold Builtin.«sorted»
  refine wpAny_bind (m := checkCount "sorted" 1 1 _) (wpAny_pure ?_)
  refine wpAny_bind (collect_set (A := A.in1) hh ⟨o, eo, ex.1, ed⟩ ef b0 er el fun s1 vs k1 hz g1 o1 pm => ?_)
  have hvl : vs.length = es.size := by rw [pm.length_eq, List.length_map, Array.length_toList]
  obtain ⟨ks', p1, v1⟩ := vals_perm pm (vals_of_keys g)
  refine wpAny_bind (wpAny_newList ?_ (by rw [hvl]; exact fits_of_scanBound b0))
  have hoL : (s1.heap.push (seqObj "list" vs.toArray 0)).get? s1.heap.objs.size = some (seqObj "list" vs.toArray 0) := Heap.get?_push_size _ rfl
  refine wpAny_bind (wpAny_holding (wpAny_call_entry slot_list_sort ⟨_, hoL, rfl⟩ entry_list_sort (thn (hs s1 vs ks' k1 hz g1 o1 (p1.trans pm0) v1 A.in1.in1 E) fun r s2 h2 => ?_) (args_list_sort _)))
  obtain ⟨rfl, out, e, q⟩ := h2
  exact ⟨_, rfl, wpAny_pure ⟨_, rfl, q⟩⟩
end
/-- each once, in the order of coming -/
def uniq {α : Type} [DecidableEq α] : List α → List α → List α
  | acc, [] => acc
  | acc, k :: ks => uniq (if k ∈ acc then acc else acc ++ [k]) ks
theorem once_map {α : Type} [DecidableEq α] {f : α → Key} (hf : ∀ a b, f a = f b → a = b) : ∀ (l acc : List α), onceK (acc.map f) (l.map f) = (uniq acc l).map f
  | [], acc => rfl
  | k :: l, acc => by
    have e : (if f k ∈ acc.map f then acc.map f else acc.map f ++ [f k]) = (if k ∈ acc then acc else acc ++ [k]).map f := by
      by_cases h : k ∈ acc
      · rw [if_pos h, if_pos (List.mem_map_of_mem h)]
      · rw [if_neg h, if_neg (fun z => h (by obtain ⟨b, hb, e⟩ := List.mem_map.mp z; rw [← hf _ _ e]; exact hb)), List.map_append]; rfl
    show onceK _ (l.map f) = _
    rw [e, once_map hf l]
    rfl
theorem uniq_len {α : Type} [DecidableEq α] : ∀ (l acc : List α), (uniq acc l).length ≤ acc.length + l.length
  | [], acc => by simp [uniq]
  | k :: l, acc => by
    have h := uniq_len l (if k ∈ acc then acc else acc ++ [k])
    unfold uniq
    split at h <;> simp_all <;> omega
theorem mem_uniq {α : Type} [DecidableEq α] {x : α} : ∀ {l acc : List α}, x ∈ uniq acc l ↔ x ∈ acc ∨ x ∈ l
  | [], acc => by simp [uniq]
  | k :: l, acc => by
    unfold uniq
    rw [mem_uniq (l := l)]
    split
    · rename_i h
      simp only [List.mem_cons]
      constructor
      · rintro (a | a)
        · exact .inl a
        · exact .inr (.inr a)
      · rintro (a | a | a)
        · exact .inl a
        · exact .inl (a ▸ h)
        · exact .inr a
    · rw [List.mem_append, List.mem_singleton, List.mem_cons]
      constructor
      · rintro ((a | a) | a)
        · exact .inl a
        · exact .inr (.inl a)
        · exact .inr (.inr a)
      · rintro (a | a | a)
        · exact .inl (.inl a)
        · exact .inl (.inr a)
        · exact .inr a
theorem nodup_uniq {α : Type} [DecidableEq α] : ∀ {l acc : List α}, acc.Nodup → (uniq acc l).Nodup
  | [], acc, h => h
  | k :: l, acc, h => by
    unfold uniq
    refine nodup_uniq ?_
    split
    · exact h
    · rename_i hk
      exact List.nodup_append.mpr ⟨h, List.nodup_cons.mpr ⟨List.not_mem_nil, List.nodup_nil⟩, fun x hx y hy e => hk (by rw [← List.mem_singleton.mp hy, ← e]; exact hx)⟩
def sortN (ns : List Nat) : List Nat := ns.mergeSort fun a b => decide (a ≤ b)
theorem sortN_perm (ns : List Nat) : (sortN ns).Perm ns := List.mergeSort_perm ns _
theorem sortN_le (ns : List Nat) : (sortN ns).Pairwise (· ≤ ·) := by
  have := List.pairwise_mergeSort (le := fun (a b : Nat) => decide (a ≤ b)) (fun a b c h k => by simp at *; omega) (fun a b => by simp; omega) ns
  exact this.imp fun h => by simpa using h
theorem sortedN_one : ∀ {xs ys : List Nat}, xs.Perm ys → xs.Pairwise (· ≤ ·) → ys.Pairwise (· ≤ ·) → xs = ys
  | [], ys, p, _, _ => by
    have := p.length_eq
    cases ys with
    | nil => rfl
    | cons y ys => simp at this
  | x :: xs, ys, p, hx, hy => by
    cases ys with
    | nil => have := p.length_eq; simp at this
    | cons y ys =>
      obtain ⟨h1, h2⟩ := List.pairwise_cons.mp hx
      obtain ⟨k1, k2⟩ := List.pairwise_cons.mp hy
      have e : x = y := by
        have a : x ∈ y :: ys := p.subset (List.mem_cons_self ..)
        have b : y ∈ x :: xs := p.symm.subset (List.mem_cons_self ..)
        rcases List.mem_cons.mp a with a | a
        · exact a
        · rcases List.mem_cons.mp b with b | b
          · exact b.symm
          · have c := h1 y b
            have d := k1 x a
            omega
      subst e
      rw [sortedN_one (List.Perm.cons_inv p) h2 k2]
theorem perm_map {α β : Type} {f : α → β} {ys : List β} {l : List α} (p : ys.Perm (l.map f)) : ∃ xs : List α, ys = xs.map f ∧ xs.Perm l := by
  generalize e : l.map f = zs at p
  induction p generalizing l with
  | nil => cases l with
    | nil => exact ⟨[], rfl, List.Perm.refl _⟩
    | cons a l => simp at e
  | @cons x l1 l2 _ ih =>
    cases l with
    | nil => simp at e
    | cons a l =>
      rw [List.map_cons] at e
      cases e
      obtain ⟨xs, e2, p2⟩ := ih rfl
      exact ⟨a :: xs, by rw [List.map_cons, e2], p2.cons a⟩
  | @swap x y l0 =>
    cases l with
    | nil => simp at e
    | cons a l =>
      cases l with
      | nil => simp at e
      | cons b l =>
        rw [List.map_cons, List.map_cons] at e
        cases e
        exact ⟨b :: a :: l, rfl, List.Perm.swap _ _ _⟩
  | trans _ _ ih1 ih2 =>
    obtain ⟨x2, e2, p2⟩ := ih2 e
    obtain ⟨x1, e1, p1⟩ := ih1 e2.symm
    exact ⟨x1, e1, p1.trans p2⟩
def sg (c : Nat) : Str := ⟨#[c]⟩
theorem rising_le : ∀ {l : List Nat} {p : Nat}, risingS (sg p) (l.map sg) = true → (p :: l).Pairwise (· ≤ ·)
  | [], p, _ => List.pairwise_singleton _ _
  | x :: l, p, h => by
    have h' : (!ltCps (sg x).cps.toList (sg p).cps.toList && risingS (sg x) (l.map sg)) = true := h
    rw [Bool.and_eq_true] at h'
    have r := rising_le h'.2
    have hp : p ≤ x := by
      have h1 := h'.1
      rw [ltCps_eq] at h1
      have h2 : ¬ ([x] < [p]) := fun z => by simp [sg, z] at h1
      rcases Nat.lt_or_ge x p with z | z
      · exact absurd (List.Lex.rel z) h2
      · exact z
    refine List.pairwise_cons.mpr ⟨fun y hy => ?_, r⟩
    rcases List.mem_cons.mp hy with e | hy
    · rw [e]; exact hp
    · exact Nat.le_trans hp ((List.pairwise_cons.mp r).1 y hy)
theorem sortedS_le : ∀ {l : List Nat}, sortedS (l.map sg) = true → l.Pairwise (· ≤ ·)
  | [], _ => List.Pairwise.nil
  | x :: l, h => rising_le h
section
variable {X : Cx} {M : Mp} {ρ : En} {Q : DQ} {e : Expr} {p p2 q pos : Pos}
/-- what may be made a set, as keys -/
inductive IsSrc : D → List Key → Prop
  | tupI (ns : List Int) : IsSrc (.tup (ns.map D.int)) (ns.map Sum.inl)
  | lstI (ns : List Int) : IsSrc (.lst (ns.map D.int)) (ns.map Sum.inl)
  | str (x : List Nat) : IsSrc (.str x) (x.map fun c => Sum.inr (sg c))
theorem map_kV (ns : List Int) : (ns.map (Sum.inl : Int → Key)).map kV = ns.map V.int := by rw [List.map_map]; rfl
theorem src_call {pins : Pins} {σ : SS} {H F : Hp} {s : Shared} {v : V} {u : Value} {d : D} {ks : List Key} {A : Around} {E : Value → Shared → Prop} {Q' : Value → Shared → Prop} (hh : A.handled = none) (I : Inv X pins σ H s) (g : Sub F H) (r : RelV v u) (rp : Rep X.K F v d) (hs : IsSrc d ks) (hb : ks.length + 1 < scanBound)
    (h : ∀ (h' : Heap) (tk : Nat), SetG X.w h' s.heap.objs.size (onceK [] ks) → (∀ b o, s.heap.get? b = some o → h'.get? b = some o) → Q' (.ref s.heap.objs.size) { s with heap := h', toks := tk }) :
    wpAny (model X.prog X.w) A (call (.type "set") [u]) Q' E s := by
  cases hs with
  | tupI ns =>
    cases rp with
    | tup q rr =>
      cases r
      obtain rfl := reps_ints rr
      obtain ⟨its, rv, pl, hz⟩ := I.tuple (g.sqT q)
      obtain ⟨o, ho, hc, n, hd⟩ := id pl
      exact setG_call hh (fun s' hk => ⟨o, hk _ _ ho, hc⟩) PySem.F.sub_tuple_set PySem.F.sub_tuple_frozenset (by decide) (SrcIt.tuple pl (by rw [map_kV]; exact rv)) hb h
  | lstI ns =>
    cases rp with
    | lst q rr =>
      cases r
      obtain rfl := reps_ints rr
      obtain ⟨its, rv, pl, hz⟩ := I.list (.inl (g.rd q))
      obtain ⟨o, n, ho, hc, hx, hd⟩ := id pl
      exact setG_call hh (fun s' hk => ⟨o, hk _ _ ho, hc⟩) PySem.F.sub_list_set PySem.F.sub_list_frozenset (by decide) (SrcIt.list pl.isList (by rw [map_kV]; exact rv)) hb h
  | str x =>
    cases rp
    obtain ⟨t, rfl⟩ := r
    exact setG_call hh (fun s' hk => typeIs_str _ _ _) PySem.F.sub_str_set PySem.F.sub_str_frozenset (by decide) (SrcIt.str (x := ⟨x.toArray⟩) (t := t)) hb h
theorem keys_ints {vs : List Value} {ks' : List Key} {l : List Int} (rv : Vals (ks'.map kV) vs) (pk : ks'.Perm (l.map Sum.inl)) : IntsAre vs (ks'.map fun k => match k with | .inl i => i | .inr _ => 0) ∧ (ks'.map fun k : Key => match k with | .inl i => i | .inr _ => (0 : Int)).Perm l := by
  refine ⟨?_, ?_⟩
  · have hall : ∀ k ∈ ks', ∃ i : Int, k = Sum.inl i := fun k hk => by
      obtain ⟨i, _, e⟩ := List.mem_map.mp (pk.mem_iff.mp hk)
      exact ⟨i, e.symm⟩
    clear pk
    induction ks' generalizing vs with
    | nil => cases rv; exact .nil
    | cons k ks' ih =>
      cases rv with
      | cons a rv =>
        obtain ⟨i, rfl⟩ := hall k List.mem_cons_self
        obtain ⟨t, rfl⟩ := a
        exact .cons i t (ih rv fun k hk => hall k (List.mem_cons_of_mem _ hk))
  · have := pk.map fun k : Key => match k with | .inl i => i | .inr _ => (0 : Int)
    rw [List.map_map] at this
    simpa [Function.comp_def] using this
theorem keys_strs {vs : List Value} {ks' : List Key} {l : List Nat} (rv : Vals (ks'.map kV) vs) (pk : ks'.Perm (l.map fun c => Sum.inr (sg c))) : ∃ cs : List Nat, StrsAre vs (cs.map sg) ∧ cs.Perm l := by
  obtain ⟨cs, rfl, p⟩ : ∃ cs : List Nat, ks' = cs.map (fun c => (Sum.inr (sg c) : Key)) ∧ cs.Perm l := perm_map pk
  refine ⟨cs, ?_, p⟩
  clear pk p
  induction cs generalizing vs with
  | nil => cases rv; exact .nil
  | cons c cs ih =>
    cases rv with
    | cons a rv =>
      obtain ⟨t, rfl⟩ := a
      exact .cons (sg c) t (ih rv)
/-- a sorted list stands -/
theorem sort_fin {pins : Pins} {σ : SS} {H : Hp} {s1 s2 : Shared} {vs : List Value} {out : Array Value} {ws : List V} (I : Inv X pins σ H s1) (k : ∀ b o, s1.heap.get? b = some o → s2.heap.get? b = some o) (hz : s1.heap.objs.size ≤ s2.heap.objs.size) (hg : s2.gens = s1.gens) (ho : s2.os = s1.os)
    (hV : Vals ws out.toList) (hl : ws.length ≤ sizeLine) : Inv X pins σ (upd H s2.heap.objs.size (.lst ws)) { s2 with heap := sortedHeap (s2.heap.push (seqObj "list" vs.toArray 0)) s2.heap.objs.size vs out } ∧ H s2.heap.objs.size = none := by
  have hf : H s2.heap.objs.size = none := I.hok.fresh hz
  have hoL : (s2.heap.push (seqObj "list" vs.toArray 0)).get? s2.heap.objs.size = some (seqObj "list" vs.toArray 0) := Heap.get?_push_size _ rfl
  obtain ⟨c, hc⟩ := sortedHeap_at (vs := vs) (out := out) hoL
  have kk : ∀ b u, s1.heap.get? b = some u → (sortedHeap (s2.heap.push (seqObj "list" vs.toArray 0)) s2.heap.objs.size vs out).get? b = some u := fun b u e => by
    have q := k b u e
    have hlt := Heap.lt_size q
    rw [sortedHeap_old (Nat.ne_of_lt hlt) (by rw [size_push']; exact Nat.lt_succ_of_lt hlt)]
    exact Heap.get?_push_of_some _ q
  exact ⟨I.call' (ch := []) ho (Un.laid kk hz hf) (I.hok.laid kk hz ⟨hl, out.toList, c, hV, hc⟩) (by show AllBare s2.gens; rw [hg]; exact I.bare) (fun _ z => nomatch z), hf⟩
/-- len(set(e)) -/
theorem WE.lenSet (hc : X.calm = true) (hm : X.mg "len" = none) (hm2 : X.mg "set" = none) (h : WE X e ρ M fun d M1 => ∃ ks, IsSrc d ks ∧ ks.length + 1 < scanBound ∧ Q (.int (onceK [] ks).length) M1) (hg : Gl X "len" := by rfl) (hg2 : Gl X "set" := by rfl)
    (na : starEach [e] X.env = (false, eval e X.env) :: starEach [] X.env := by rfl) : WE X (.Call (.Name "len" p) [.Call (.Name "set" p2) [e] [] q] [] pos) ρ M Q := by
  refine ⟨fun pins s σ H F I S => ?_⟩
  refine Call_ (ld_blt I hg hm boot_len ?_)
  refine PyProof.Rows.callWith_builtin1 (PyProof.Rows.args_cons ?_ rfl) rfl rfl
  refine Call_ (ld_blt I hg2 hm2 boot_set ?_)
  refine PyProof.Rows.callWith_type1 (PyProof.Rows.args_cons (thn (h.run pins s σ H F I S) fun u s1 ⟨v, H1, F1, M1, d, I1, r1, t1, p1, ks, hs, hb, q1⟩ => PyProof.Rows.args_nil ?_) na) na rfl
  refine src_call (I1.ok.hd hc) I1 t1.good.sub r1 p1 hs hb fun h' tk R hk => PyProof.Rows.args_nil ?_
  obtain ⟨o, es, ep, t, ho, hex, hd, hf, hn⟩ := R.size
  have I2 : Inv X pins σ H1 { s1 with heap := h', toks := tk } := I1.kept hk
  have hl : (onceK [] ks).length < scanBound := Nat.lt_of_le_of_lt (once_len ks []) (by simpa using Nat.lt_of_succ_lt hb)
  have hsb : scanBound = 4096 := rfl
  refine call_len_set ho hex hd hf (by rw [hn]; omega) ⟨.int (onceK [] ks).length, H1, F1, M1, _, I2.tok _, ⟨_, by rw [hn]⟩, t1, .int _, q1⟩
/-- sorted(set(e)) of ints -/
theorem WE.sortedSetI (hc : X.calm = true) (hm : X.mg "sorted" = none) (hm2 : X.mg "set" = none) (h : WE X e ρ M fun d M1 => ∃ ns : List Int, IsSrc d (ns.map Sum.inl) ∧ ns.length + 1 < scanBound ∧ Q (.lst ((sortI (uniq [] ns)).map D.int)) M1) (hg : Gl X "sorted" := by rfl) (hg2 : Gl X "set" := by rfl)
    (na : starEach [e] X.env = (false, eval e X.env) :: starEach [] X.env := by rfl) : WE X (.Call (.Name "sorted" p) [.Call (.Name "set" p2) [e] [] q] [] pos) ρ M Q := by
  refine ⟨fun pins s σ H F I S => ?_⟩
  refine Call_ (ld_blt I hg hm (by decide +kernel : bootBuiltins "sorted" = some (.builtin "sorted")) ?_)
  refine PyProof.Rows.callWith_builtin1 (PyProof.Rows.args_cons ?_ rfl) rfl rfl
  refine Call_ (ld_blt I hg2 hm2 boot_set ?_)
  refine PyProof.Rows.callWith_type1 (PyProof.Rows.args_cons (thn (h.run pins s σ H F I S) fun u s1 ⟨v, H1, F1, M1, d, I1, r1, t1, p1, ns, hs, hb, q1⟩ => PyProof.Rows.args_nil ?_) na) na rfl
  refine src_call (I1.ok.hd hc) I1 t1.good.sub r1 p1 hs (by simpa using hb) fun h' tk R hk => PyProof.Rows.args_nil ?_
  have I2 : Inv X pins σ H1 { s1 with heap := h', toks := tk } := I1.kept hk
  have e0 : onceK [] (ns.map Sum.inl) = (uniq [] ns).map (Sum.inl : Int → Key) := once_map (f := (Sum.inl : Int → Key)) (fun a b z => Sum.inl.inj z) ns []
  rw [e0] at R
  refine sortG R (I2.ok.hd hc) fun s2 vs ks' k2 hz g2 o2 pk rv A' E' => ?_
  obtain ⟨hI, pI⟩ := keys_ints rv pk
  have hvl : vs.length ≤ sizeLine := by
    have a := uniq_len ns []
    have b : vs.length = (uniq [] ns).length := by rw [← rv.length, List.length_map, pk.length_eq, List.length_map]
    have c : scanBound = 4096 := rfl
    have d := sizeLine_eq
    simp at a
    omega
  refine list_sort_treeAny (s := { s2 with heap := s2.heap.push (seqObj "list" vs.toArray 0) }) (Heap.get?_push_size _ rfl) hI hvl fun out ns' h1 h2 h3 => ⟨rfl, out, rfl, ?_⟩
  have en := sorted_one (h2.trans (pI.trans (sortI_perm _).symm)) h3 (sortI_le _)
  subst en
  have hlen : ((sortI (uniq [] ns)).map V.int).length ≤ sizeLine := by
    rw [List.length_map, h2.length_eq, ← hI.length]
    exact hvl
  obtain ⟨I3, hf⟩ := sort_fin I2 k2 hz g2 o2 (out := out) (vals_of_ints h1) hlen
  have t2 := Stp.new (o := .lst ((sortI (uniq [] ns)).map V.int)) t1.good hf
  exact ⟨.ref _, _, _, M1, _, I3, rfl, t1.trans t2, .lst (.of upd_same) (rep_ints _), q1⟩
/-- sorted(set(e)) of a text's signs -/
theorem WE.sortedSetS (hc : X.calm = true) (hm : X.mg "sorted" = none) (hm2 : X.mg "set" = none) (h : WE X e ρ M fun d M1 => ∃ x : List Nat, d = .str x ∧ x.length + 1 < scanBound ∧ Q (.lst ((sortN (uniq [] x)).map fun c => .str [c])) M1) (hg : Gl X "sorted" := by rfl) (hg2 : Gl X "set" := by rfl)
    (na : starEach [e] X.env = (false, eval e X.env) :: starEach [] X.env := by rfl) : WE X (.Call (.Name "sorted" p) [.Call (.Name "set" p2) [e] [] q] [] pos) ρ M Q := by
  refine ⟨fun pins s σ H F I S => ?_⟩
  refine Call_ (ld_blt I hg hm (by decide +kernel : bootBuiltins "sorted" = some (.builtin "sorted")) ?_)
  refine PyProof.Rows.callWith_builtin1 (PyProof.Rows.args_cons ?_ rfl) rfl rfl
  refine Call_ (ld_blt I hg2 hm2 boot_set ?_)
  refine PyProof.Rows.callWith_type1 (PyProof.Rows.args_cons (thn (h.run pins s σ H F I S) fun u s1 ⟨v, H1, F1, M1, d, I1, r1, t1, p1, x, hd, hb, q1⟩ => PyProof.Rows.args_nil ?_) na) na rfl
  subst hd
  refine src_call (I1.ok.hd hc) I1 t1.good.sub r1 p1 (IsSrc.str x) (by simpa using hb) fun h' tk R hk => PyProof.Rows.args_nil ?_
  have I2 : Inv X pins σ H1 { s1 with heap := h', toks := tk } := I1.kept hk
  have e0 : onceK [] (x.map fun c => Sum.inr (sg c)) = (uniq [] x).map fun c => (Sum.inr (sg c) : Key) := once_map (f := fun c => (Sum.inr (sg c) : Key)) (fun a b z => by
    have := Sum.inr.inj z
    simpa [sg] using this) x []
  rw [e0] at R
  refine sortG R (I2.ok.hd hc) fun s2 vs ks' k2 hz g2 o2 pk rv A' E' => ?_
  obtain ⟨cs, hS, pI⟩ := keys_strs rv pk
  have hvl : vs.length ≤ sizeLine := by
    have a := uniq_len x []
    have b : vs.length = (uniq [] x).length := by rw [← rv.length, List.length_map, pk.length_eq, List.length_map]
    have c : scanBound = 4096 := rfl
    have d := sizeLine_eq
    simp at a
    omega
  refine list_sort_treeKAny (s := { s2 with heap := s2.heap.push (seqObj "list" vs.toArray 0) }) strKind_oneLt (Heap.get?_push_size _ rfl) hS.keysOf (fun v₁ v₂ rest e => keyKind_strs (by rw [← e]; exact hS)) hvl fun st' hp hs => ⟨rfl, (arrOf st').map (·.2), rfl, ?_⟩
  obtain ⟨ss', h1, h2, h3⟩ := sorted_out_str hS hp hs
  obtain ⟨cs', rfl, p3⟩ : ∃ cs' : List Nat, ss' = cs'.map sg ∧ cs'.Perm cs := perm_map h2
  have en := sortedN_one (p3.trans (pI.trans (sortN_perm _).symm)) (sortedS_le h3) (sortN_le _)
  subst en
  have hv := vals_of_strs h1
  have hlen : (((sortN (uniq [] x)).map sg).map V.str).length ≤ sizeLine := by
    rw [hv.length, h1.len_eq, List.length_map, p3.length_eq, ← List.length_map (f := sg), ← hS.len_eq]
    exact hvl
  obtain ⟨I3, hf⟩ := sort_fin I2 k2 hz g2 o2 (out := (arrOf st').map (·.2)) hv hlen
  have t2 := Stp.new (o := .lst (((sortN (uniq [] x)).map sg).map V.str)) t1.good hf
  refine ⟨.ref _, _, _, M1, _, I3, rfl, t1.trans t2, .lst (.of upd_same) ?_, q1⟩
  have := rep_strs (K := X.K) (F := upd F1 s2.heap.objs.size (.lst (((sortN (uniq [] x)).map sg).map V.str))) ((sortN (uniq [] x)).map fun c => [c])
  simpa [List.map_map, Function.comp_def, sg] using this
end
end TL
end
section
set_option maxRecDepth 100000
set_option maxHeartbeats 2000000
/-! TZ2: several new things at once; list(zip(a, b)), dict(pairs), over tree values. -/
namespace TL
open PySem PySem.Spec PyProof.Rows L2

/-- the things G laid over H -/
def lay (H : Hp) (G : List (Addr × HO)) : Hp := fun b => match G.lookup b with
  | some o => some o
  | none => H b
theorem lay_some {H : Hp} {G : List (Addr × HO)} {b : Addr} {o : HO} (h : G.lookup b = some o) : lay H G b = some o := by unfold lay; rw [h]
theorem lay_none {H : Hp} {G : List (Addr × HO)} {b : Addr} (h : G.lookup b = none) : lay H G b = H b := by unfold lay; rw [h]
theorem lay_keep {H H0 : Hp} {G : List (Addr × HO)} (hn : ∀ b o, G.lookup b = some o → H0 b = none) {b : Addr} {o : HO} (h0 : H0 b = some o) : lay H G b = H b := by
  cases e : G.lookup b with
  | none => exact lay_none e
  | some u => rw [hn b u e] at h0; cases h0
section
variable {K : PySem.W.Frag} {H F : Hp} {M : Mp} {G : List (Addr × HO)}
theorem Stp.lay (r : Good K H F M) (hn : ∀ b o, G.lookup b = some o → H b = none) : Stp K H F M (TL.lay H G) (TL.lay F G) M := by
  have sF : Sub F (TL.lay F G) := fun b o e => by rw [lay_keep hn (r.sub b o e)]; exact e
  refine ⟨fun b o e m => ⟨by rw [lay_keep hn e]; exact e, m⟩, sF, fun b o e => ?_, ⟨fun b o e => ?_, fun b m e => ?_, fun b m e => ?_⟩⟩
  · cases q : G.lookup b with
    | none => rw [lay_none q] at e; exact .inl e
    | some u => exact .inr (.inr (hn b u q))
  · cases q : G.lookup b with
    | none => rw [lay_none q] at e ⊢; exact r.sub b o e
    | some u => rw [lay_some q] at e ⊢; exact e
  · obtain ⟨o, ho, _⟩ := r.real b m e
    rw [lay_keep hn ho]
    exact r.dis b m e
  · obtain ⟨o, ho, ro⟩ := r.real b m e
    exact ⟨o, by rw [lay_keep hn ho]; exact ho, ro.mono sF⟩
end
section
variable {X : Cx} {pins : Pins} {σ : SS} {H : Hp} {s : Shared} {G : List (Addr × HO)} {h' : Heap} {tk : Nat}
theorem inv_lay (I : Inv X pins σ H s) (hk : ∀ b o, s.heap.get? b = some o → h'.get? b = some o) (hn : ∀ b o, G.lookup b = some o → s.heap.objs.size ≤ b) (hok : ∀ b o, G.lookup b = some o → ObjOk X.prog X.w (lay H G) h' b o) :
    Inv X pins σ (lay H G) { s with heap := h', toks := tk } := by
  have fr : ∀ b o, G.lookup b = some o → H b = none := fun b o e => I.hok.fresh (hn b o e)
  have kp : ∀ b u, H b = some u → lay H G b = some u := fun b u e => by rw [lay_keep fr e]; exact e
  refine I.call' (ch := []) rfl ⟨fun b o q _ _ _ => hk b o q, fun b o q _ _ _ => ⟨o.slots, hk b o q⟩, fun b o q n _ => ?_, fun b o q _ => ⟨o, hk b o q⟩, fun b xs q => kp b _ q, fun b o u q => kp b _ q, fun b ps q => ⟨#[], by rw [kp b _ q]; simp⟩⟩ (fun b u q => ?_) I.bare fun b z => by simp at z
  · cases e : G.lookup b with
    | none => rw [lay_none e]; exact n
    | some u => exact absurd (Heap.lt_size q) (Nat.not_lt.mpr (hn b u e))
  · cases e : G.lookup b with
    | some o =>
      rw [lay_some e] at q
      exact hok b u (e.trans q)
    | none =>
      rw [lay_none e] at q
      exact (I.hok b u q).stay (fun d v _ y => hk d v y) (fun d y => kp d _ y) fun d xs y => kp d _ y
end
/-! ### list(zip(a, b)) -/
def prT (as : List Addr) (ps : List (V × V)) : List (Addr × HO) := (as.zip ps).map fun q => (q.1, HO.tup [q.2.1, q.2.2])
theorem prT_some : ∀ {as : List Addr} {ps : List (V × V)} {b : Addr} {o : HO}, (prT as ps).lookup b = some o → ∃ (j : Nat) (p : V × V), as[j]? = some b ∧ ps[j]? = some p ∧ o = .tup [p.1, p.2]
  | [], _, _, _, h => by cases h
  | _ :: _, [], _, _, h => by cases h
  | a :: as, p :: ps, b, o, h => by
    have h2 : (match b == a with | true => some (HO.tup [p.1, p.2]) | false => (prT as ps).lookup b) = some o := h
    cases e : b == a with
    | true =>
      rw [e] at h2
      cases h2
      exact ⟨0, p, by rw [beq_iff_eq.mp e]; rfl, rfl, rfl⟩
    | false =>
      rw [e] at h2
      obtain ⟨j, q, e1, e2, e3⟩ := prT_some h2
      exact ⟨j + 1, q, by simpa using e1, by simpa using e2, e3⟩
theorem prT_at : ∀ {as : List Addr} {ps : List (V × V)} {j : Nat} {a : Addr} {p : V × V}, as.Nodup → as[j]? = some a → ps[j]? = some p → (prT as ps).lookup a = some (.tup [p.1, p.2])
  | [], _, _, _, _, _, h, _ => by simp at h
  | _ :: _, [], _, _, _, _, _, h => by simp at h
  | b :: as, q :: ps, 0, a, p, _, h1, h2 => by
    simp at h1 h2
    subst h1 h2
    show (match b == b with | true => some (HO.tup [q.1, q.2]) | false => (prT as ps).lookup b) = _
    simp
  | b :: as, q :: ps, j + 1, a, p, hn, h1, h2 => by
    simp at h1 h2
    have hb := List.nodup_cons.mp hn
    have ne : (a == b) = false := by
      rw [beq_eq_false_iff_ne]
      intro e
      exact hb.1 (e ▸ List.mem_of_getElem? h1)
    show (match a == b with | true => some (HO.tup [q.1, q.2]) | false => (prT as ps).lookup a) = _
    rw [ne]
    exact prT_at hb.2 h1 h2
/-- the pairs as data -/
def zpT (xs ys : List D) : List D := List.zipWith (fun x y => D.tup [x, y]) xs ys
section
variable {X : Cx} {ρ : En} {M : Mp} {Q : DQ} {e e2 : Expr} {p p2 pos pos2 : Pos}
theorem WE.listZip (hc : X.calm = true) (hml : X.mg "list" = none) (hmz : X.mg "zip" = none) (h : WA X [e, e2] ρ M fun ds M1 => ∃ xs ys, ds = [.tup xs, .tup ys] ∧ xs.length = ys.length ∧ Q (.lst (zpT xs ys)) M1)
    (hg : Gl X "list" := by rfl) (hg2 : Gl X "zip" := by rfl) (hs : starEach [.Call (.Name "zip" p2) [e, e2] [] pos2] X.env = (false, eval (.Call (.Name "zip" p2) [e, e2] [] pos2) X.env) :: starEach [] X.env := by rfl)
    (hs2 : starEach [e, e2] X.env = (false, eval e X.env) :: starEach [e2] X.env := by rfl) (hpl : (backTo pos2 (starEach [e2] X.env)).any (·.1) = false := by rfl) :
    WE X (.Call (.Name "list" p) [.Call (.Name "zip" p2) [e, e2] [] pos2] [] pos) ρ M Q := by
  refine ⟨fun pins s σ H F I S => ?_⟩
  refine wpAny_Call_Name_kw (ld_blt I hg hml (by rfl) ?_)
  refine PyProof.Rows.callWith_type1 ?_ hs rfl
  rw [hs]
  show wpAny _ _ (spliced ((false, eval (.Call (.Name "zip" p2) [e, e2] [] pos2) X.env) :: backTo pos (starEach [] X.env))) _ _ s
  refine Calls.spliced_cons ?_
  refine Call_ (ld_blt I hg2 hmz PyProof.Rows.boot_zip (PyProof.Rows.callWith_type1 (thn (h.run pos2 pins s σ H F I S) fun us s1 ⟨vs, H1, F1, M1, ds, I1, r1, t1, p1, xs, ys, ed, hl, q⟩ => ?_) hs2 hpl))
  subst ed
  cases p1 with
  | cons pa p1 =>
    cases p1 with
    | cons pb p1 =>
      cases p1
      cases r1 with
      | cons ra r1 =>
        cases r1 with
        | cons rb r1 =>
          cases r1
          cases pa with
          | @tup a va _ sa rpa =>
            cases pb with
            | @tup b vb _ sb rpb =>
              cases ra
              cases rb
              obtain ⟨ia, wa, ta, za⟩ := I1.tuple (t1.good.sub.sqT sa)
              obtain ⟨ib, wb, tb, zb⟩ := I1.tuple (t1.good.sub.sqT sb)
              have la : a < s1.heap.objs.size := by obtain ⟨_, e, _⟩ := ta; exact Heap.lt_size e
              have lb : b < s1.heap.objs.size := by obtain ⟨_, e, _⟩ := tb; exact Heap.lt_size e
              have n1 := wa.length
              have n2 := wb.length
              have n3 := rpa.length
              have n4 := rpb.length
              refine RZ.call_zipT ta tb fun h5 z1 z2 z3 z4 z5 z6 kp => ?_
              refine Calls.spliced_nil ?_
              have ta' : s1.heap.IsTuple a ia.toArray := ta
              have tb' : s1.heap.IsTuple b ib.toArray := tb
              have ka := ta'.at fun o e => kp _ o e
              have kb := tb'.at fun o e => kp _ o e
              refine ZL.call_list (I1.ok.hd hc) (by simp; omega) (by simpa using (n1 ▸ za)) rfl z6 z1 z2 z3 z4 z5 ka kb la lb fun h' tk acc c as hk hS hlen hG hacc => ?_
              let G : List (Addr × HO) := (s1.heap.objs.size + 5, .lst (as.map V.ref)) :: prT as (va.zip vb)
              have nd : as.Nodup := List.Pairwise.imp (fun {a b} (h : a < b) => Nat.ne_of_lt h) hG.rise
              have cs : ∀ b o, G.lookup b = some o → (b = s1.heap.objs.size + 5 ∧ o = .lst (as.map V.ref)) ∨ (b ≠ s1.heap.objs.size + 5 ∧ (prT as (va.zip vb)).lookup b = some o) := fun b o h => by
                have h2 : (match b == s1.heap.objs.size + 5 with | true => some (HO.lst (as.map V.ref)) | false => (prT as (va.zip vb)).lookup b) = some o := h
                cases e : b == s1.heap.objs.size + 5 with
                | true =>
                  rw [e] at h2
                  exact .inl ⟨beq_iff_eq.mp e, (Option.some.inj h2).symm⟩
                | false =>
                  rw [e] at h2
                  exact .inr ⟨by simpa using e, h2⟩
              have big : ∀ b o, G.lookup b = some o → s1.heap.objs.size ≤ b := fun b o h => by
                rcases cs b o h with ⟨e, _⟩ | ⟨_, h⟩
                · rw [e]; exact Nat.le_add_right _ _
                · obtain ⟨j, p, e1, _, _⟩ := prT_some h
                  exact Nat.le_trans (Nat.le_add_right _ _) (Nat.le_of_lt (hG.above b (List.mem_of_getElem? e1)))
              have I2 : Inv X pins σ (lay H1 G) { s1 with heap := h', toks := tk } := inv_lay I1 (fun b o e => hk b o e (kp b o e)) big fun b o h => by
                rcases cs b o h with ⟨rfl, rfl⟩ | ⟨_, h⟩
                · refine ⟨by rw [List.length_map, hlen]; simpa using (n1 ▸ za), acc.toList, c, by rw [hacc]; exact LiI.vals_refs as, ?_⟩
                  rw [Array.toArray_toList]
                  exact hS
                · obtain ⟨j, p, e1, e2, rfl⟩ := prT_some h
                  obtain ⟨x, y, f1, f2, f3⟩ := hG.pairs j b e1
                  have e2' := List.getElem?_zip_eq_some.mp e2
                  obtain ⟨x', g1, g2⟩ := LiI.paired_get wa e2'.1
                  obtain ⟨y', g3, g4⟩ := LiI.paired_get wb e2'.2
                  have f1' : ia[j]? = some x := by simpa using f1
                  have f2' : ib[j]? = some y := by simpa using f2
                  rw [f1'] at g1
                  rw [f2'] at g3
                  cases g1
                  cases g3
                  exact ⟨by show 2 ≤ sizeLine; decide, [x, y], .cons g2 (.cons g4 .nil), ⟨_, f3, rfl, _, rfl⟩⟩
              have t2 := Stp.lay (G := G) t1.good fun b o h => I1.hok.fresh (big b o h)
              have hF : lay F1 G (s1.heap.objs.size + 5) = some (.lst (as.map V.ref)) := lay_some (by
                show (match s1.heap.objs.size + 5 == s1.heap.objs.size + 5 with | true => some (HO.lst (as.map V.ref)) | false => _) = _
                rw [beq_self_eq_true])
              refine ⟨.ref (s1.heap.objs.size + 5), _, _, M1, _, I2, rfl, t1.trans t2, .lst (.of hF) ?_, q⟩
              have key : ∀ (j : Nat) (as' : List Addr) (va' vb' : List V) (xs ys : List D), (∀ i a, as'[i]? = some a → as[j + i]? = some a) → (∀ i v, va'[i]? = some v → va[j + i]? = some v) → (∀ i v, vb'[i]? = some v → vb[j + i]? = some v) →
                  as'.length = xs.length → Reps X.K F1 va' xs → Reps X.K F1 vb' ys → xs.length = ys.length → Reps X.K (lay F1 G) (as'.map V.ref) (zpT xs ys) := by
                intro j as' va' vb' xs ys
                induction xs generalizing j as' va' vb' ys with
                | nil =>
                  intro _ _ _ hl' _ _ _
                  cases as' with
                  | nil => exact .nil
                  | cons => simp at hl'
                | cons x xs ih =>
                  intro h1 h2 h3 hl' ra rb hl2
                  cases ys with
                  | nil => simp at hl2
                  | cons y ys =>
                    cases as' with
                    | nil => simp at hl'
                    | cons a0 as' =>
                      cases ra with
                      | @cons v0 _ _ _ r0 ra =>
                        cases rb with
                        | @cons w0 _ _ _ r0' rb =>
                          have g1 := h1 0 a0 rfl
                          have g2 := h2 0 v0 rfl
                          have g3 := h3 0 w0 rfl
                          have lk : (prT as (va.zip vb)).lookup a0 = some (.tup [v0, w0]) := prT_at (p := (v0, w0)) nd g1 (List.getElem?_zip_eq_some.mpr ⟨g2, g3⟩)
                          have ab := hG.above a0 (List.mem_of_getElem? g1)
                          have hF0 : lay F1 G a0 = some (.tup [v0, w0]) := lay_some (by
                            show (match a0 == s1.heap.objs.size + 5 with | true => some (HO.lst (as.map V.ref)) | false => (prT as (va.zip vb)).lookup a0) = _
                            have : (a0 == s1.heap.objs.size + 5) = false := by simpa using Nat.ne_of_gt ab
                            rw [this]
                            exact lk)
                          refine .cons (.tup (.of hF0) (.cons (t2.rep r0) (.cons (t2.rep r0') .nil))) (ih (j + 1) as' _ _ ys (fun i a q => ?_) (fun i v q => ?_) (fun i v q => ?_) (by simpa using hl') ra rb (by simpa using hl2))
                          · have := h1 (i + 1) a (by simpa using q); rwa [show j + 1 + i = j + (i + 1) from by omega]
                          · have := h2 (i + 1) v (by simpa using q); rwa [show j + 1 + i = j + (i + 1) from by omega]
                          · have := h3 (i + 1) v (by simpa using q); rwa [show j + 1 + i = j + (i + 1) from by omega]
              exact key 0 as va vb xs ys (fun i a q => by simpa using q) (fun i a q => by simpa using q) (fun i a q => by simpa using q) (by rw [hlen]; simp; omega) rpa rpb hl
end
end TL
end
section
set_option maxRecDepth 100000
set_option maxHeartbeats 2000000
/-! TP: displays of dicts, dict(pairs), backward slices, repetition, index in a text, isinstance by own classes, unpacking of lists. -/
namespace TL
open PySem PySem.Spec PyProof.Rows L2

/-! ### what is made and filled by hand -/
section
variable {K : PySem.W.Frag} {H F H2 F2 : Hp} {M M2 : Mp} {p : Addr} {o : HO}
theorem Stp.owned (t : Stp K H F M H2 F2 M2) (h : H p = none) (f : F2 p = none) (m : M2 p = none) : Stp K H F M (upd H2 p o) (upd F2 p o) M2 := by
  refine ⟨fun b u e n => by rw [upd_ne (ne_of_none e h)]; exact t.keep b u e n, t.sub.trans (sub_upd f), fun b u e => ?_, ⟨fun b u e => ?_, fun b m' e => ?_, fun a m' e => ?_⟩⟩
  · by_cases hb : b = p
    · subst hb; exact .inr (.inr h)
    · rw [upd_ne hb] at e; exact t.news b u e
  · by_cases hb : b = p
    · subst hb; rw [upd_same] at e ⊢; exact e
    · rw [upd_ne hb] at e ⊢; exact t.good.sub b u e
  · have hb : b ≠ p := fun z => by rw [z, m] at e; cases e
    rw [upd_ne hb]; exact t.good.dis b m' e
  · have ha : a ≠ p := fun z => by rw [z, m] at e; cases e
    obtain ⟨u, hu, ru⟩ := t.good.real a m' e
    exact ⟨u, by rw [upd_ne ha]; exact hu, ru.mono (sub_upd f)⟩
theorem Stp.ownedM {mo : MO} (t : Stp K H F M H2 F2 M2) (h : H p = none) (f : F2 p = none) (m : M2 p = none) (ro : RepO K F2 o mo) : Stp K H F M (upd H2 p o) F2 (mset M2 p mo) := by
  refine ⟨fun b u e n => ⟨by rw [upd_ne (ne_of_none e h)]; exact (t.keep b u e n).1, by rw [mset_ne (ne_of_none e h)]; exact (t.keep b u e n).2⟩, t.sub, t.news, ⟨fun b u e => ?_, fun b m' e => ?_, fun a m' e => ?_⟩⟩
  · rw [upd_ne (ne_of_none e f)]; exact t.good.sub b u e
  · by_cases hb : b = p
    · subst hb; exact f
    · rw [mset_ne hb] at e; exact t.good.dis b m' e
  · by_cases ha : a = p
    · subst ha
      rw [mset_same] at e
      cases e
      exact ⟨o, upd_same, ro⟩
    · rw [mset_ne ha] at e
      obtain ⟨u, hu, ru⟩ := t.good.real a m' e
      exact ⟨u, by rw [upd_ne ha]; exact hu, ru⟩
theorem Stp.hidden {H' F' : Hp} {M' : Mp} (t : Stp K H F M H' F' M') (h : H p = some o) (f : F p = none) (m : M p = none) : H' p = some o ∧ F' p = none ∧ M' p = none := by
  obtain ⟨k1, k2⟩ := t.keep p o h m
  refine ⟨k1, ?_, k2⟩
  cases q : F' p with
  | none => rfl
  | some u =>
    rcases t.news p u q with z | z | z
    · rw [f] at z; cases z
    · exact absurd m z
    · rw [h] at z; cases z
end

/-! ### {k: v, ..} -/
def mergeG {α : Type} (kvs more : List (Key × α)) : List (Key × α) := more.foldl (fun acc kv => putG acc kv.1 kv.2) kvs
theorem RepK.merge {K : PySem.W.Frag} {F : Hp} : ∀ {more : List (Key × V)} {ds : List (Key × D)} {vs : List (Key × V)} {es : List (Key × D)}, RepK K F more ds → RepK K F vs es → RepK K F (mergeK vs more) (mergeG es ds)
  | _, _, _, _, .nil, r => r
  | (k, v) :: more, (_, d) :: ds, vs, es, .cons a q, r => by
    show RepK K F (mergeK (putK vs k v) more) (mergeG (putG es k d) ds)
    exact RepK.merge q (RepK.put r a)
/-- the pairs of a display, from the left -/
def WDs (X : Cx) : List (Option Expr) → List Expr → En → Mp → (List (D × D) → Mp → Prop) → Prop
  | some k :: ks, v :: vs, ρ, M, Q => WE X k ρ M fun x M1 => WE X v ρ M1 fun y M2 => WDs X ks vs ρ M2 fun ps M3 => Q ((x, y) :: ps) M3
  | _, _, _, M, Q => Q [] M
def lPairs (X : Cx) : List (Option Expr) → List Expr → List (TE × TE)
  | some k :: ks, v :: vs => (lTE X k, lTE X v) :: lPairs X ks vs
  | _, _ => []
theorem lPairs_ok {X : Cx} {pos : Pos} : ∀ {ks : List (Option Expr)} {vs : List Expr}, ks.all (·.isSome) = true → ks.length = vs.length → PPs X pos ks vs (lPairs X ks vs)
  | [], [], _, _ => pps_nil
  | [], _ :: _, _, h => by simp at h
  | _ :: _, [], _, h => by simp at h
  | none :: _, _ :: _, h, _ => by simp at h
  | some k :: ks, v :: vs, h, hl => pps_cons lTE_ok lTE_ok (lPairs_ok (by simpa using h) (by simpa using hl))
inductive RepP (K : PySem.W.Frag) (F : Hp) : List (V × V) → List (D × D) → Prop
  | nil : RepP K F [] []
  | cons {v w : V} {d e : D} {vs : List (V × V)} {ds : List (D × D)} : Rep K F v d → Rep K F w e → RepP K F vs ds → RepP K F ((v, w) :: vs) ((d, e) :: ds)
theorem lPairs_run {X : Cx} : ∀ {ks : List (Option Expr)} {vs : List Expr} {σ : SS} {H F : Hp} {M : Mp} {ρ : En} {Q : List (D × D) → Mp → Prop} {R : List (V × V) → Hp → Prop}, ks.all (·.isSome) = true → ks.length = vs.length → Sim X.K H F M σ ρ → WDs X ks vs ρ M Q →
    (∀ H' F' M' ps vps, Stp X.K H F M H' F' M' → RepP X.K F' vps ps → Q ps M' → R vps H') → tPairs (lPairs X ks vs) σ H R
  | [], [], σ, H, F, M, ρ, Q, R, _, _, S, w, h => h H F M [] [] (Stp.refl S.good) .nil w
  | [], _ :: _, _, _, _, _, _, _, _, _, hl, _, _, _ => by simp at hl
  | _ :: _, [], _, _, _, _, _, _, _, _, hl, _, _, _ => by simp at hl
  | none :: _, _ :: _, _, _, _, _, _, _, _, ha, _, _, _, _ => by simp at ha
  | some k :: ks, v :: vs, σ, H, F, M, ρ, Q, R, ha, hl, S, w, h => by
    refine ⟨F, M, ρ, _, S, w, fun x H1 ⟨F1, M1, dx, t1, p1, w1⟩ => ⟨F1, M1, ρ, _, S.step t1, w1, fun y H2 ⟨F2, M2, dy, t2, p2, w2⟩ => ?_⟩⟩
    exact lPairs_run (by simpa using ha) (by simpa using hl) (S.step (t1.trans t2)) w2 fun H' F' M' ps vps t r q => h H' F' M' _ _ ((t1.trans t2).trans t) (.cons ((t2.trans t).rep p1) (t.rep p2) r) q
theorem RepP.keys {K : PySem.W.Frag} {F : Hp} : ∀ {vs : List (V × V)} {kds : List (Key × D)}, RepP K F vs (kds.map fun kv => (keyV kv.1, kv.2)) → ∃ kvs : List (Key × V), vs = kvs.map (fun kv => (kV kv.1, kv.2)) ∧ RepK K F kvs kds
  | _, [], r => by cases r; exact ⟨[], rfl, .nil⟩
  | _, kd :: kds, r => by
    cases r with
    | cons a b r =>
      obtain ⟨kvs, rfl, q⟩ := RepP.keys r
      obtain rfl := rep_key a
      exact ⟨(kd.1, _) :: kvs, rfl, .cons b q⟩
section
variable {X : Cx} {ρ : En} {M : Mp} {Q : DQ} {pos : Pos} {keys : List (Option Expr)} {values : List Expr}
theorem WE.disp (h : WDs X keys values ρ M fun ps M1 => ∃ kds : List (Key × D), ps = kds.map (fun kv => (keyV kv.1, kv.2)) ∧ kds.length ≤ 15 ∧ Q (.dic (mergeG [] kds)) M1)
    (ha : keys.all (·.isSome) = true := by rfl) (hl : keys.length = values.length := by rfl) (h0 : keys ≠ [] := by simp) (h15 : keys.length ≤ 15 := by decide) : WE X (.Dict keys values pos) ρ M Q := by
  refine .pe (pe_disp (lPairs_ok ha hl) ha hl h0 h15) fun σ H F S p hp => ?_
  have t0 := Stp.newO (o := .dK []) S.good hp
  have f0 := S.good.freeF hp
  have m0 := S.good.free hp
  refine lPairs_run ha hl (S.step t0) h fun H' F' M' ps vps t r ⟨kds, e, hz, q⟩ => ?_
  subst e
  obtain ⟨kvs, rfl, rk⟩ := r.keys
  obtain ⟨k1, k2, k3⟩ := t.hidden upd_same f0 m0
  refine ⟨k1, kvs, rfl, by rw [rk.len]; exact hz, _, M', _, (t0.trans t).owned hp k2 k3, .dic upd_same ((rk.merge .nil).mono (sub_upd k2)), q⟩
theorem WE.dispM (h : WDs X keys values ρ M fun ps M1 => ∃ kds : List (Key × D), ps = kds.map (fun kv => (keyV kv.1, kv.2)) ∧ kds.length ≤ 15 ∧ ∀ p, M p = none → M1 p = none → Q (.ref p) (mset M1 p (.dic (mergeG [] kds))))
    (ha : keys.all (·.isSome) = true := by rfl) (hl : keys.length = values.length := by rfl) (h0 : keys ≠ [] := by simp) (h15 : keys.length ≤ 15 := by decide) : WE X (.Dict keys values pos) ρ M Q := by
  refine .pe (pe_disp (lPairs_ok ha hl) ha hl h0 h15) fun σ H F S p hp => ?_
  have t0 := Stp.newO (o := .dK []) S.good hp
  have f0 := S.good.freeF hp
  have m0 := S.good.free hp
  refine lPairs_run ha hl (S.step t0) h fun H' F' M' ps vps t r ⟨kds, e, hz, q⟩ => ?_
  subst e
  obtain ⟨kvs, rfl, rk⟩ := r.keys
  obtain ⟨k1, k2, k3⟩ := t.hidden upd_same f0 m0
  exact ⟨k1, kvs, rfl, by rw [rk.len]; exact hz, _, _, _, (t0.trans t).ownedM hp k2 k3 (.dic (rk.merge .nil)), .ref p, q p m0 k3⟩
end
/-! ### dict(pairs) -/
theorem reps_pairs {K : PySem.W.Frag} {F : Hp} : ∀ {vs : List V} {kds : List (Key × D)}, Reps K F vs (kds.map fun kv => .tup [keyV kv.1, kv.2]) → ∃ (ps : List Addr) (kvs : List (Key × V)), vs = ps.map V.ref ∧ Paired (fun p kv => SqT K F p [kV kv.1, kv.2]) ps kvs ∧ RepK K F kvs kds
  | _, [], r => by cases r; exact ⟨[], [], rfl, .nil, .nil⟩
  | _, kd :: kds, r => by
    cases r with
    | cons a r =>
      obtain ⟨ps, kvs, rfl, q, rk⟩ := reps_pairs r
      cases a with
      | @tup p _ _ hs hr =>
        cases hr with
        | cons r1 hr =>
          cases hr with
          | cons r2 hr =>
            cases hr
            obtain rfl := rep_key r1
            exact ⟨p :: ps, (kd.1, _) :: kvs, rfl, .cons hs q, .cons r2 rk⟩
theorem paired_mono {α β : Type} {R R' : α → β → Prop} (h : ∀ a b, R a b → R' a b) : ∀ {as : List α} {bs : List β}, Paired R as bs → Paired R' as bs
  | _, _, .nil => .nil
  | _, _, .cons a r => .cons (h _ _ a) (paired_mono h r)
section
variable {X : Cx} {M : Mp} {Q : DQ} {kds : List (Key × D)}
theorem VC.dictP (hc : X.calm = true) (h : Q (.dic (mergeG [] kds)) M) : VC X (.type "dict") [.lst (kds.map fun kv => .tup [keyV kv.1, kv.2])] M Q :=
  .call (call_dictP hc) fun H F vs R p => by
    cases p with
    | cons q p =>
      cases p
      cases q with
      | @lst a ws _ s r =>
        obtain ⟨ps, kvs, rfl, pr, rk⟩ := reps_pairs r
        refine ⟨a, ps, kvs, rfl, .inl (R.sub.rd s), paired_mono (fun _ _ z => R.sub.sqT z) pr, fun p hp => ?_⟩
        have t := Stp.new (o := .dK (mergeK [] kvs)) R hp
        exact ⟨_, M, _, t, .dic upd_same ((rk.merge .nil).mono t.sub), h⟩
theorem VC.dictPM (hc : X.calm = true) (h : ∀ p, M p = none → Q (.ref p) (mset M p (.dic (mergeG [] kds)))) : VC X (.type "dict") [.lst (kds.map fun kv => .tup [keyV kv.1, kv.2])] M Q :=
  .call (call_dictP hc) fun H F vs R p => by
    cases p with
    | cons q p =>
      cases p
      cases q with
      | @lst a ws _ s r =>
        obtain ⟨ps, kvs, rfl, pr, rk⟩ := reps_pairs r
        refine ⟨a, ps, kvs, rfl, .inl (R.sub.rd s), paired_mono (fun _ _ z => R.sub.sqT z) pr, fun p hp => ?_⟩
        exact ⟨_, _, _, Stp.newM R hp (.dic (rk.merge .nil)), .ref p, h p (R.free hp)⟩
/-- list(d.items()) -/
theorem reps_items {K : PySem.W.Frag} {F G : Hp} (sF : Sub F G) : ∀ {ts : List Addr} {kvs : List (Key × V)} {kds : List (Key × D)}, Paired (fun (t : Addr) (q : Key × V) => G t = some (.tup [kV q.1, q.2])) ts kvs → RepK K F kvs kds → Reps K G (ts.map V.ref) (kds.map fun kv => .tup [keyV kv.1, kv.2])
  | _, _, _, .nil, .nil => .nil
  | _, _, _, .cons h p, .cons a r => .cons (.tup (.of h) (.cons (key_rep _) (.cons (a.mono sF) .nil))) (reps_items sF p r)
end
/-! ### backwards -/
section
variable {X : Cx} {ρ : En} {M : Mp} {Q : DQ} {e : Expr} {k : Nat} {p1 p2 p3 pos : Pos}
theorem WE.revL (h : WE X e ρ M fun d M1 => ∃ xs, d = .lst xs ∧ Q (.lst xs.reverse) M1) : WE X (.Subscript e (.Slice none none (some (.UnaryOp .USub (.Constant (.int 1) k p1) p2)) p3) pos) ρ M Q :=
  .pe (pe_revL lTE_ok) fun σ H F S => ⟨F, M, ρ, _, S, h, fun v H1 ⟨F1, M1, d, t, rp, xs, ed, q⟩ => by
    subst ed
    cases rp with
    | @lst a vs _ hs hr =>
      refine ⟨a, vs, rfl, .inl (t.good.sub.rd hs), fun p hp => ?_⟩
      have t2 := Stp.new (o := .lst vs.reverse) t.good hp
      exact ⟨_, M1, _, t.trans t2, .lst (.of upd_same) (t2.reps hr.reverse), q⟩⟩
/-- .. to be written -/
theorem WE.revM (h : WE X e ρ M fun d M1 => ∃ xs, d = .lst xs ∧ ∀ p, M1 p = none → Q (.ref p) (mset M1 p (.lst xs.reverse))) : WE X (.Subscript e (.Slice none none (some (.UnaryOp .USub (.Constant (.int 1) k p1) p2)) p3) pos) ρ M Q :=
  .pe (pe_revL lTE_ok) fun σ H F S => ⟨F, M, ρ, _, S, h, fun v H1 ⟨F1, M1, d, t, rp, xs, ed, q⟩ => by
    subst ed
    cases rp with
    | @lst a vs _ hs hr =>
      refine ⟨a, vs, rfl, .inl (t.good.sub.rd hs), fun p hp => ?_⟩
      exact ⟨_, _, _, t.trans (Stp.newM t.good hp (.lst hr.reverse)), .ref p, q p (t.good.free hp)⟩⟩
theorem rev_text (x : List Nat) : (⟨((Builtin.Str.strSliceIndices none none (-1) x.length).filterMap (x.toArray[·]?)).toArray⟩ : Str) = ⟨x.reverse.toArray⟩ := by
  have e : Builtin.Str.strSliceIndices none none (-1) x.length = (List.range x.length).reverse := by
    show sliceRange ((x.length : Int) - 1) (-1) (-1) = _
    rw [PySem.W.krv_sliceRange, PySem.W.krv_range]
  rw [e, List.filterMap_reverse]
  have := PySem.W.krv_all x.toArray
  rw [List.size_toArray] at this
  rw [this]
theorem WE.revS (h : WE X e ρ M fun d M1 => ∃ x, d = .str x ∧ x.length ≤ sizeLine ∧ Q (.str x.reverse) M1) : WE X (.Subscript e (.Slice none none (some (.UnaryOp .USub (.Constant (.int 1) k p1) p2)) p3) pos) ρ M Q := by
  refine ⟨fun pins s σ H F I S => ?_⟩
  refine Subscript_ (thn (h.run pins s σ H F I S) fun u s1 ⟨v, H1, F1, M1, d, I1, r1, t1, rp, x, ed, hz, q⟩ => ?_)
  subst ed
  cases rp
  obtain ⟨tk, rfl⟩ := r1
  have hst : PO X (some (.UnaryOp .USub (.Constant (.int 1) k p1) p2)) (tPart (tUn (rU fun i => .int (-i)) (tC (.int 1)))) := po_some (pe_un un_neg pe_int)
  refine wpAny_Slice (thn (po_none.run pins s1 σ H1 (fun o H2 => o = none ∧ H2 = H1) I1 ⟨rfl, rfl⟩) fun vl s2 ⟨l, H2, I2, pl, el, e2⟩ => ?_)
  subst el e2
  refine thn (po_none.run pins s2 σ H2 (fun o H3 => o = none ∧ H3 = H2) I2 ⟨rfl, rfl⟩) fun vu s3 ⟨w, H3, I3, pu, eu, e3⟩ => ?_
  subst eu e3
  refine thn (hst.run pins s3 σ H3 (fun o H4 => o = some (-1) ∧ H4 = H3) I3 ⟨1, rfl, -1, rfl, rfl, rfl⟩) fun vs s4 ⟨o, H4, I4, ps, eo, e4⟩ => ?_
  subst eo e4
  obtain ⟨l, rfl, el⟩ := IsPart.raw pl
  obtain ⟨w, rfl, ew⟩ := IsPart.raw pu
  obtain ⟨st, rfl, est⟩ := IsPart.raw ps
  have I5 : Inv X pins σ H4 { s4 with heap := s4.heap.push { cls := .type "slice", data := .fields #[partValue l, partValue w, partValue st] } } := I4.kept (t' := s4.toks) fun b ob q => Heap.get?_push_of_some _ q
  cases l with
  | some _ => cases el
  | none =>
    cases w with
    | some _ => cases ew
    | none =>
      show wpAny (model X.prog X.w) X.A (subscriptTail e (.Slice none none (some (.UnaryOp .USub (.Constant (.int 1) k p1) p2)) p3) (.str ⟨x.toArray⟩ tk) (.ref s4.heap.objs.size)) (TEnd X pins σ H F M Q) X.xe { s4 with heap := s4.heap.push { cls := .type "slice", data := .fields #[partValue none, partValue none, partValue st] } }
      have e1 : (st.map (·.1)).getD 1 = -1 := by rw [est]; rfl
      refine tail_any (ops := [.str ⟨x.toArray⟩ tk, .ref s4.heap.objs.size]) (typeIs_str _ _ _) PySem.F.slot_str_getitem.lookup ?_ (by with_unfolding_all rfl)
      refine wpAny_getItem_str_slice (l := none) (u := none) (st := st) ⟨_, Heap.get?_push_size _ rfl, rfl, rfl⟩ (by rw [e1]; rfl) ?_
      have hs : sliceMade ⟨x.toArray⟩ tk none none st = .str ⟨x.reverse.toArray⟩ := by
        unfold sliceMade slicePicked
        rw [e1]
        have e3 : ((-1 : Int) == 1) = false := by decide
        rw [e3, Bool.false_and, if_neg Bool.false_ne_true]
        have := rev_text x
        rw [← this]
        rfl
      rw [hs]
      exact ⟨by show x.reverse.toArray.size ≤ sizeLine; simpa using hz, .str ⟨x.reverse.toArray⟩, H4, F1, M1, _, I5.tok _, ⟨_, rfl⟩, t1, .str _, q⟩
end
/-! ### [x] * k -/
section
variable {X : Cx} {M : Mp} {Q : DQ}
theorem VO.repM {a : Addr} {xs : List D} {k : Int} (hm : M a = some (.lst xs)) (h1 : -(2 ^ 63) ≤ k) (h2 : k < 2 ^ 63) (hz : xs.length * k.toNat ≤ sizeLine) (h : Q (.lst (List.replicate k.toNat xs).flatten) (mdel M a)) : VO X (binaryOp .Mult) (.ref a) (.int k) M Q :=
  .op op_rep fun H F v1 v2 R r1 r2 => by
    cases r1
    cases r2
    obtain ⟨vs, hv, rv⟩ := R.lst hm
    refine ⟨a, k, vs, rfl, rfl, hv, h1, h2, by rw [rv.length]; exact hz, fun p hp => ?_⟩
    have t := Stp.freeze R hm hv
    have t2 := Stp.new (o := .lst (List.replicate k.toNat vs).flatten) t.good hp
    refine ⟨_, _, _, t.trans t2, .lst (.of upd_same) ?_, h⟩
    have key : ∀ n : Nat, Reps X.K F (List.replicate n vs).flatten (List.replicate n xs).flatten := fun n => by
      induction n with
      | zero => exact .nil
      | succ n ih => rw [List.replicate_succ, List.replicate_succ, List.flatten_cons, List.flatten_cons]; exact rv.append ih
    exact (t.trans t2).reps (key _)
/-! ### s.index(c) -/
theorem VM.sindex {x y : List Nat} {i : Nat} {rest : List Nat} (ho : Builtin.Str.occurrences ⟨x.toArray⟩ ⟨y.toArray⟩ 0 x.length 1 = i :: rest) (h : Q (.int (i : Nat)) M) : VM X "str.index" (.str x) [.str y] M Q :=
  .mt mt_sindex fun H F v vs R p1 p2 => by
    cases p1
    cases p2 with
    | cons q p2 =>
      cases p2
      cases q
      exact ⟨_, _, i, rest, rfl, rfl, ho, F, M, _, Stp.refl R, .int _, h⟩
/-! ### isinstance(x, C) -/
/-- what an own class must say, for isinstance -/
structure IsC (K : PySem.W.Frag) (C : Addr) : Prop where
  cls : Cls K C
  ha : PySem.W.findIn K (.ref C) "__class__" = some (some (.builtin "object.__class__"))
  hn : PySem.W.specialIn K (.builtin "object.__class__") "__get__" = some (some (.builtin "getset_descriptor.__get__"))
  ht : PySem.W.takesIn K (.builtin "object.__class__") = some true
  hm : PySem.W.mroIn K C (.type "object") = some true
theorem VC.isC {C L : Addr} {fs : List (Str × D)} {b : Bool} (T : IsC X.K C) (hb : PySem.W.kitOne X.K (.ref C) (.ref L) = some b) (h : Q (.bl b) M) : VC X (.builtin "isinstance") [.ins C fs, .ref L] M Q :=
  .call call_isi fun H F vs R p => by
    cases p with
    | cons q p =>
      cases p with
      | cons q2 p =>
        cases p
        cases q2
        cases q with
        | ins hF rF => exact ⟨_, _, .ref C, .ref L, b, rfl, .own L, .base (.ins (R.sub _ _ hF) T.cls T.ha T.hn T.ht T.hm), hb, F, M, _, Stp.refl R, .bl b, h⟩
end
/-! ### a, b = l -/
section
variable {X : Cx} {ρ : En} {M : Mp} {R : En → Mp → Prop} {pos : Pos}
def lTGs (X : Cx) (ts : List Expr) : TGs := fun vs σ H Q => ∃ F M ρ xs R, Sim X.K H F M σ ρ ∧ Reps X.K F vs xs ∧ WGs X ts xs ρ M R ∧ ∀ σ' H', NEnd X H F M R σ' H' → Q σ' H'
theorem WG.unl {es : List Expr} {k : Nat} {xs : List D} (hc : X.calm = true) (h : WGs X es xs ρ M R) (hl : xs.length = (assignEach es X.env).length := by rfl) (hst : (assignEach es X.env).findIdx? (·.1) = none := by rfl) : WG X (.Tuple es k pos) (.lst xs) ρ M R := by
  refine ⟨fun pins s σ H F v u I S r rp => ?_⟩
  cases rp with
  | lst hq hr =>
    refine thn ((pg_lst (n := xs.length) (t := lTGs X es) hc ⟨fun pins s σ H vs us Q I r ⟨F, M, ρ, xs, R, S, rp, h, hq⟩ => ?_⟩ hl.symm hst).run pins s σ H _ u _ I r ⟨_, _, rfl, .inl (S.good.sub.rd hq), hr.length, F, M, ρ, xs, R, S, hr, h, fun _ _ q => q⟩) fun _ s' ⟨σ', H', I', q⟩ => ⟨σ', H', I', q⟩
    exact thn (h.run pins s σ H F vs us I S r rp) fun _ s' ⟨σ', H', I', q⟩ => ⟨σ', H', I', hq _ _ q⟩
end
/-! ### a module's dict of texts -/
section
variable {X : Cx} {M : Mp} {Q : DQ}
theorem VO.inKD {d : Addr} {es : Array DictEntry} {n : Nat} {x : List Nat} {r : Option Value} (T : KDict X.K X.w d es n) (hr : PySem.W.nsIn X.K d ⟨x.toArray⟩ = some r) (h : Q (.bl r.isSome) M) : VO X (compareOp .In) (.str x) (.ref d) M Q :=
  .op (op_in_kd T) fun H F v1 v2 R r1 r2 => by
    cases r1
    cases r2
    exact ⟨_, r, rfl, rfl, hr, F, M, _, Stp.refl R, .bl _, h⟩
end
end TL
end
section
set_option maxRecDepth 100000
set_option maxHeartbeats 2000000
/-! TQ: list(d.items()), dict comprehensions. -/
namespace TL
open PySem PySem.Spec PyProof.Rows L2
section
variable {K : PySem.W.Frag} {H F H' : Hp} {M : Mp}
/-- all that is new is frozen -/
def grow (H H' F : Hp) : Hp := fun b => match H b with
  | none => H' b
  | some _ => F b
theorem grow_old {b : Addr} {o : HO} (h : H b = some o) : grow H H' F b = F b := by unfold grow; rw [h]
theorem grow_new {b : Addr} (h : H b = none) : grow H H' F b = H' b := by unfold grow; rw [h]
theorem Stp.grow (r : Good K H F M) (hk : ∀ b o, H b = some o → H' b = some o) : Stp K H F M H' (TL.grow H H' F) M := by
  have sF : Sub F (TL.grow H H' F) := fun b o e => by rw [grow_old (r.sub b o e)]; exact e
  refine ⟨fun b o e m => ⟨hk b o e, m⟩, sF, fun b o e => ?_, ⟨fun b o e => ?_, fun b m e => ?_, fun b m e => ?_⟩⟩
  · cases q : H b with
    | none => exact .inr (.inr rfl)
    | some u => rw [grow_old q] at e; exact .inl e
  · cases q : H b with
    | none => rw [grow_new q] at e; exact e
    | some u => rw [grow_old q] at e; exact hk b o (r.sub b o e)
  · obtain ⟨o, ho, _⟩ := r.real b m e
    rw [grow_old ho]
    exact r.dis b m e
  · obtain ⟨o, ho, ro⟩ := r.real b m e
    exact ⟨o, hk b o ho, ro.mono sF⟩
end
section
variable {X : Cx} {ρ : En} {M : Mp} {Q : DQ} {e : Expr} {p apos cpos pos : Pos}
theorem WE.listItems (hc : X.calm = true) (hm : X.mg "list" = none) (h : WE X e ρ M fun d M1 => ∃ kds, d = .dic kds ∧ Q (.lst (kds.map fun kv => .tup [keyV kv.1, kv.2])) M1) (hg : Gl X "list" := by rfl)
    (hbase : attributeBase e "items" X.env (eval e X.env) = eval e X.env := by rfl) (hline : (apos.endLine == cpos.line) = true := by rfl)
    (hs : starEach [.Call (.Attribute e "items" apos) [] [] cpos] X.env = (false, eval (.Call (.Attribute e "items" apos) [] [] cpos) X.env) :: starEach [] X.env := by rfl) :
    WE X (.Call (.Name "list" p) [.Call (.Attribute e "items" apos) [] [] cpos] [] pos) ρ M Q :=
  .pe (LiI.pe_listItems hc lTE_ok hg hm (by rfl) hbase hline hs) fun σ H F S => ⟨F, M, ρ, _, S, h, fun v H1 ⟨F1, M1, d, t, rp, kds, ed, q⟩ => by
    subst ed
    cases rp with
    | @dic a kvs _ hF rK =>
      refine ⟨a, kvs, rfl, t.good.sub _ _ hF, fun H' p ts hk hp hts hpn hl hpr => ?_⟩
      have t2 := Stp.grow t.good hk
      refine ⟨_, M1, _, t.trans t2, .lst (.of (by rw [grow_new hp]; exact hl)) (reps_items t2.sub ?_ rK), q⟩
      have key : ∀ {ts : List Addr} {kvs : List (Key × V)}, (∀ t ∈ ts, H1 t = none) → Paired (fun (t : Addr) (q : Key × V) => H' t = some (.tup [kV q.1, q.2])) ts kvs → Paired (fun (t : Addr) (q : Key × V) => TL.grow H1 H' F1 t = some (.tup [kV q.1, q.2])) ts kvs := by
        intro ts kvs hn pr
        induction pr with
        | nil => exact .nil
        | cons a _ ih => exact .cons (by rw [grow_new (hn _ (List.mem_cons_self ..))]; exact a) (ih fun t ht => hn t (List.mem_cons_of_mem _ ht))
      exact key hts hpr⟩
end
/-! ### dict comprehensions -/
section
variable {X : Cx} {scope : Scope} {tg kx vx iter : Expr} {ifs : List Expr} {ρ : En} {M : Mp} {Q : DQ} {own : List (Str × Nat)} {pos : Pos}
def DCompT (X : Cx) (scope : Scope) (kx vx : Expr) (ifs : List Expr) (bind : D → Option En) (Q : List (Key × D) → Mp → Prop) : List D → List (Key × D) → Mp → Prop
  | [], acc, M => Q acc M
  | x :: xs, acc, M => acc.length < sizeLine ∧ ∃ ρ1 b M1, bind x = some ρ1 ∧ (∀ s H C cl fp, WTs (Blk X scope s H C cl fp) ifs ρ1 M fun b' M' => b' = b ∧ M' = M1) ∧
    (b = false → DCompT X scope kx vx ifs bind Q xs acc M1) ∧ (b = true → ∃ k M2 y M3, (∀ s H C cl fp, WE (Blk X scope s H C cl fp) kx ρ1 M1 fun y' M' => y' = keyV k ∧ M' = M2) ∧ (∀ s H C cl fp, WE (Blk X scope s H C cl fp) vx ρ1 M2 fun y' M' => y' = y ∧ M' = M3) ∧
      DCompT X scope kx vx ifs bind Q xs (putG acc k y) M3)
/-- the readings of a dict comprehension -/
theorem dc_reads {g : TG} {bind : D → Option En} (hb : BindOk X.K g (own.map (·.2)) ρ bind) (h : WI X tg iter ρ M fun xs M1 => DCompT X scope kx vx ifs bind (fun kds M2 => Q (.dic kds) M2) xs [] M1) :
    ∃ wi tt tk tv, PI X tg iter wi ∧ (∀ (s : Shared) (H : Hp) (C : Addr) (cl : List (Str × Addr)) (fp : List Addr), PTs (Blk X scope s H C cl fp) ifs tt) ∧ (∀ (s : Shared) (H : Hp) (C : Addr) (cl : List (Str × Addr)) (fp : List Addr), PE (Blk X scope s H C cl fp) kx tk) ∧ (∀ (s : Shared) (H : Hp) (C : Addr) (cl : List (Str × Addr)) (fp : List Addr), PE (Blk X scope s H C cl fp) vx tv) ∧
      ∀ (σ0 : SS) (H0 F0 : Hp) (R : VK), Sim X.K H0 F0 M σ0 ρ → (∀ v H' F' M' d, Stp X.K H0 F0 M H' F' M' → Rep X.K F' v d → Q d M' → R v H') → tDc wi g tt tk tv (own.map (·.2)) σ0 H0 R := by
  obtain ⟨wi, hi, h⟩ := h
  let tt : TT := fun σ H R => ∃ F M ρ b M1, Sim X.K H F M σ ρ ∧ (∀ s H C cl fp, WTs (Blk X scope s H C cl fp) ifs ρ M fun b' M' => b' = b ∧ M' = M1) ∧ ∀ H' F', Stp X.K H F M H' F' M1 → R b H'
  let te : Expr → TE := fun ex σ H R => ∃ F M ρ y M2, Sim X.K H F M σ ρ ∧ (∀ s H C cl fp, WE (Blk X scope s H C cl fp) ex ρ M fun y' M' => y' = y ∧ M' = M2) ∧ ∀ v H' F', Stp X.K H F M H' F' M2 → Rep X.K F' v y → R v H'
  have pt : ∀ (s : Shared) (H : Hp) (C : Addr) (cl : List (Str × Addr)) (fp : List Addr), PTs (Blk X scope s H C cl fp) ifs tt := fun s H C cl fp => ⟨fun pins s' σ H' R I ⟨F, M, ρ, b, M1, S, w, q⟩ =>
    thn ((w s H C cl fp).run pins s' σ H' F I S) fun b' s2 ⟨H2, F2, M2, I2, t2, e1, e2⟩ => by subst e1 e2; exact ⟨H2, I2, q H2 F2 t2⟩⟩
  have pe : ∀ (ex : Expr) (s : Shared) (H : Hp) (C : Addr) (cl : List (Str × Addr)) (fp : List Addr), PE (Blk X scope s H C cl fp) ex (te ex) := fun ex s H C cl fp => ⟨fun pins s' σ H' R I ⟨F, M, ρ, y, M2, S, w, q⟩ =>
    thn ((w s H C cl fp).run pins s' σ H' F I S) fun u s2 ⟨v, H2, F2, M3, d, I2, r2, t2, p2, e1, e2⟩ => by subst e1 e2; exact ⟨v, H2, I2, r2, q v H2 F2 t2 p2⟩⟩
  refine ⟨wi, tt, te kx, te vx, hi, pt, pe kx, pe vx, fun σ0 H0 F0 R0 S0 hR0 => ?_⟩
  refine h σ0 H0 F0 S0 _ fun J H1 F1 M1 xs t1 wk ct D hD => ?_
  have hDF : F1 D = none := t1.good.freeF hD
  have hDM : M1 D = none := t1.good.free hD
  let St : Nat → Hp → Prop := fun i H => ∃ F M' acc vs, Stp X.K H1 F1 M1 H F M' ∧ F D = none ∧ M' D = none ∧ H D = some (.dK vs) ∧ RepK X.K F vs acc ∧ DCompT X scope kx vx ifs bind (fun kds M2 => Q (.dic kds) M2) (xs.drop i) acc M'
  have other : ∀ {H F : Hp} {M' : Mp} {o : HO}, Stp X.K H1 F1 M1 H F M' → F D = none → M' D = none → Stp X.K H1 F1 M1 (upd H D o) F M' := fun {H F M' o} t f m =>
    ⟨fun b u e n => by
      have hb : b ≠ D := ne_of_none e hD
      rw [upd_ne hb]; exact t.keep b u e n, t.sub, t.news, t.good.other f m⟩
  refine ⟨fun i m H => m = xs.length - i ∧ i ≤ xs.length ∧ St i H, ⟨xs.length, by simp, Nat.zero_le _, F1, M1, [], [], other (Stp.refl t1.good) hDF hDM, hDF, hDM, upd_same, .nil, ct⟩, ?_⟩
  rintro i m H ⟨rfl, hi, F, M', acc, vs, t2, f2, m2, hl, hr, c2⟩
  by_cases hlt : i < xs.length
  · obtain ⟨hgo, hy⟩ := (wk i H F M' t2).1 hlt
    refine .inr ⟨hgo, St (i + 1), fun H' p => ⟨_, by omega, rfl, hlt, p⟩, fun x H' y => ?_⟩
    obtain ⟨F3, d, hd, t3, rp⟩ := hy x H' y
    have ed : xs.drop i = d :: xs.drop (i + 1) := by
      rw [List.drop_eq_getElem_cons hlt]
      have := List.getElem?_eq_getElem hlt
      rw [hd] at this
      rw [Option.some.inj this]
    rw [ed] at c2
    obtain ⟨hz, ρ1, b, M4, eb, w4, q4, q5⟩ := c2
    obtain ⟨hl3, f3, m3⟩ := t3.hidden hl f2 m2
    have S3 := ((S0.step t1).step (t2.trans t3)).wipe (own.map (·.2))
    refine hb x d σ0 H' F3 M' ρ1 _ S3 rp eb fun σ4 S4 ew => ⟨ew, F3, M', ρ1, b, M4, S4, w4, fun H5 F5 t5 => ?_⟩
    obtain ⟨hl5, f5, m5⟩ := t5.hidden hl3 f3 m3
    cases b with
    | false =>
      rw [if_neg Bool.false_ne_true]
      exact ⟨F5, M4, acc, vs, (t2.trans t3).trans t5, f5, m5, hl5, hr.mono (t3.trans t5).sub, q4 rfl⟩
    | true =>
      rw [if_pos rfl]
      obtain ⟨k, M6, y, M7, w6, w7, c6⟩ := q5 rfl
      refine ⟨F5, M4, ρ1, keyV k, M6, S4.step t5, w6, fun v H7 F7 t7 r7 => ?_⟩
      obtain ⟨hl7, f7, m7⟩ := t7.hidden hl5 f5 m5
      refine ⟨F7, M6, ρ1, y, M7, (S4.step t5).step t7, w7, fun v2 H8 F8 t8 r8 => ?_⟩
      obtain ⟨hl8, f8, m8⟩ := t8.hidden hl7 f7 m7
      obtain rfl := rep_key r7
      have rk := hr.mono (((t3.trans t5).trans t7).trans t8).sub
      refine ⟨vs, k, rfl, hl8, by rw [hr.len]; exact hz, F8, M7, putG acc k y, putK vs k v2, other ((((t2.trans t3).trans t5).trans t7).trans t8) f8 m8, f8, m8, upd_same, rk.put r8, c6⟩
  · have e : i = xs.length := by omega
    subst e
    rw [List.drop_length] at c2
    have eH : upd H D (.dK vs) = H := by
      funext b
      by_cases hb : b = D
      · subst hb; rw [upd_same, hl]
      · rw [upd_ne hb]
    have t3 := t2.owned (o := .dK vs) hD f2 m2
    rw [eH] at t3
    exact .inl ⟨(wk _ H F M' t2).2 rfl, hR0 _ _ (upd F D (.dK vs)) M' _ (t1.trans t3) (.dic upd_same (hr.mono (sub_upd f2))) c2⟩
theorem WE.dc {g : TG} {bind : D → Option En} (hc : X.calm = true) (hN : X.N.Nodup) (ok : BlkOk X.N X.env.scope scope own) (hb : BindOk X.K g (own.map (·.2)) ρ bind)
    (hg : ∀ (s : Shared) (H : Hp) (C : Addr) (cl : List (Str × Addr)) (fp : List Addr), PG (Blk X scope s H C cl fp) tg g)
    (h : WI X tg iter ρ M fun xs M1 => DCompT X scope kx vx ifs bind (fun kds M2 => Q (.dic kds) M2) xs [] M1) (hs : ∀ x, foldedSetIterable iter X.env x = pure x := by intro _; rfl) : WE X (.DictComp kx vx [⟨tg, iter, ifs, 0⟩] scope pos) ρ M Q := by
  obtain ⟨wi, tt, tk, tv, hi, pt, pk, pv, q⟩ := dc_reads hb h
  exact .pe (pe_dc hc hN hi ok hg pt pk pv hs) fun σ H F S => q σ H F _ S fun v H' F' M' d t r q => ⟨F', M', d, t, r, q⟩
/-- n = {..} -/
theorem WS.setDc {g : TG} {bind : D → Option En} {E : TEs} {n : Str} {pos' spos : Pos} (i : Nat) (hc : X.calm = true) (hN : X.N.Nodup) (ok : BlkOk X.N X.env.scope scope own) (hb : BindOk X.K g (own.map (·.2)) ρ bind)
    (hg : ∀ (s : Shared) (H : Hp) (C : Addr) (cl : List (Str × Addr)) (fp : List Addr), PG (Blk X scope s H C cl fp) tg g)
    (h : WI X tg iter ρ M fun xs M1 => DCompT X scope kx vx ifs bind (fun kds M2 => E.nx (ρ.set i (some (.dic kds))) M2) xs [] M1) (hi : X.N[i]? = some n := by rfl) (hl : X.env.scope.names.lookup n = some .local := by rfl)
    (hsw : swapsWith (.DictComp kx vx [⟨tg, iter, ifs, 0⟩] scope pos) (some (.Name n pos')) spos.line X.env = pure true := by rfl) (hs : ∀ x, foldedSetIterable iter X.env x = pure x := by intro _; rfl) :
    WS X (.Assign [.Name n pos'] (.DictComp kx vx [⟨tg, iter, ifs, 0⟩] scope pos) spos) ρ M E := by
  obtain ⟨wi, tt, tk, tv, hi', pt, pk, pv, q⟩ := dc_reads (Q := fun d M2 => E.nx (ρ.set i (some d)) M2) hb h
  refine ⟨fun pins s σ H F I S => ?_⟩
  rw [exec_Assign_Name_used _ _ _ _ hsw]
  refine wpAny_bind (wpAny_standAt (wpAny_bind ?_))
  show wpAny _ X.A (do let _ ← comprehension (.DictComp kx vx [⟨tg, iter, ifs, 0⟩] scope pos) scope X.env (firstIterPos [⟨tg, iter, ifs, 0⟩] pos) newDict false (eval iter X.env) (some (assign (.Name n pos') X.env))) _ _ s
  have h : tDc wi g tt tk tv (own.map (·.2)) σ H (fun x H1 => (E.ends X H F M).nx (σ.set i (some x)) H1) := q σ H F _ S fun v H' F' M' d t r q => ⟨F', M', _, t, (S.step t).set i r, q⟩
  refine wpAny_bind (thn (dc_core (Qf := fun _ s' => SP X pins (E.ends X H F M) .next s') hc hN I hi' ok hg pt pk pv hs h fun L C s' m H' I' q hn f => ?_) fun _ s' hq => wpAny_pure (wpAny_pure hq))
  show wpAny _ _ (assign (.Name n pos') X.env (.ref L)) _ _ _
  refine wpAny_assign_Name (store_ok2 (v := V.ref L) I' hN hi (.inl hl) rfl (fun s2 I2 ⟨a, sb, ha⟩ => ?_) (.inr hl))
  obtain ⟨f0, f1, f2, f3, f4, f5⟩ := f
  have haC : C ≠ a := by
    rcases ha with z | z
    · rw [z]; exact f1
    · exact fun e => f4 n a z e.symm
  refine ⟨m, hn.sameBut sb haC, fun h3 sb3 => ?_⟩
  exact ⟨_, H', I2.turned (t' := s2.toks) (fun b o hb e => (sb3.2 b hb).trans e) f0 f1 f3 f4 f5, q⟩
end
end TL
end
section
set_option maxRecDepth 100000
set_option maxHeartbeats 2000000
/-! TR: repr of data. -/
namespace TL
open PySem PySem.Spec PyProof.Rows L2
mutual
/-- what repr reads -/
def rpy : D → PyData
  | .non => .none
  | .bl b => .bool b
  | .int i => .int i
  | .str x => .str ⟨x.toArray⟩
  | .tup xs => .tuple (rpys xs)
  | .lst xs => .list (rpys xs)
  | .dic _ => .dict []
  | .ty _ | .ref _ | .ins _ _ | .xn _ _ _ | .tun _ => .none
def rpys : List D → List PyData
  | [] => []
  | d :: ds => rpy d :: rpys ds
end
mutual
/-- data that repr shows: ints below 2 ** 1900, empty dicts -/
def isR : D → Bool
  | .non | .bl _ | .str _ => true
  | .int i => decide (i.natAbs.log2 < 1920)
  | .tup xs | .lst xs => areR xs
  | .dic kvs => kvs.isEmpty
  | .ty _ | .ref _ | .ins _ _ | .xn _ _ _ | .tun _ => false
def areR : List D → Bool
  | [] => true
  | d :: ds => isR d && areR ds
end
mutual
theorem isR_show : ∀ {d : D}, isR d = true → (rpy d).showable = true
  | .non, _ => by simp [rpy, PyData.showable]
  | .bl _, _ => by simp [rpy, PyData.showable]
  | .str _, _ => by simp [rpy, PyData.showable]
  | .int i, h => by simpa [rpy, PyData.showable, isR] using h
  | .tup xs, h => by
    simp only [rpy, PyData.showable]
    exact areR_show (by simpa [isR] using h)
  | .lst xs, h => by
    simp only [rpy, PyData.showable]
    exact areR_show (by simpa [isR] using h)
  | .dic kvs, _ => by simp [rpy, PyData.showable, PyData.showableKv]
theorem areR_show : ∀ {ds : List D}, areR ds = true → PyData.showableAll (rpys ds) = true
  | [], _ => by simp [rpys, PyData.showableAll]
  | d :: ds, h => by
    simp only [areR, Bool.and_eq_true] at h
    simp only [rpys, PyData.showableAll, Bool.and_eq_true]
    exact ⟨isR_show h.1, areR_show h.2⟩
end
section
variable {X : Cx} {pins : Pins} {σ : SS} {H F : Hp} {M : Mp} {s : Shared}
theorem not_sys (I : Inv X pins σ H s) (hs : ∃ o, X.base.get? sysModules = some o) {a : Addr} {o : HO} (h : H a = some o) : a ≠ sysModules := by
  rintro rfl
  obtain ⟨u, hu⟩ := hs
  have := (I.bs _ _ hu).2
  rw [h] at this
  cases this
mutual
theorem Rep.reads (I : Inv X pins σ H s) (R : Good X.K H F M) (hs : ∃ o, X.base.get? sysModules = some o) : ∀ {d : D} {v : V} {u : Value}, Rep X.K F v d → isR d = true → RelV v u → ∃ as, Reads s.heap u (rpy d) as ∧ sysModules ∉ as
  | .non, _, u, p, _, r => by
    cases p
    obtain rfl : u = Value.none := r
    exact ⟨[], by simp only [rpy]; exact .none, by simp⟩
  | .bl b, _, u, p, _, r => by
    cases p
    obtain rfl : u = Value.bool b := r
    exact ⟨[], by simp only [rpy]; exact .bool b, by simp⟩
  | .int i, _, u, p, _, r => by
    cases p
    obtain ⟨t, rfl⟩ := r
    exact ⟨[], by simp only [rpy]; exact .int i t, by simp⟩
  | .str x, _, u, p, _, r => by
    cases p
    obtain ⟨t, rfl⟩ := r
    exact ⟨[], by simp only [rpy]; exact .str _ t, by simp⟩
  | .tup xs, _, u, p, h, r => by
    cases p with
    | tup hq hr =>
      cases r
      obtain ⟨its, w, ⟨o, ho, hc, n, hd⟩, hz⟩ := I.tuple (R.sub.sqT hq)
      obtain ⟨as, ra, na⟩ := Reps.reads I R hs hr (by simpa [isR] using h) w
      exact ⟨as, by simp only [rpy]; exact .tuple ho hc hd (by simpa using ra), na⟩
  | .lst xs, _, u, p, h, r => by
    cases p with
    | lst hq hr =>
      cases r
      obtain ⟨z1, i1, n1, w1, e1⟩ := (R.sub.rd hq).ok I.hok
      obtain ⟨as, ra, na⟩ := Reps.reads I R hs hr (by simpa [isR] using h) w1
      refine ⟨_ :: as, by simp only [rpy]; exact .list e1 rfl rfl (by simpa using ra), ?_⟩
      rw [List.mem_cons, not_or]
      refine ⟨fun e => ?_, na⟩
      rcases R.sub.rd hq with q | ⟨o, q⟩
      · exact not_sys I hs q e.symm
      · exact not_sys I hs q e.symm
  | .dic kvs, _, u, p, h, r => by
    cases p with
    | dic hF rK =>
      cases r
      have e : kvs = [] := by simpa [isR] using h
      subst e
      cases rK
      obtain ⟨z, hd, vs, rel, dd⟩ := dk_of I.hok (R.sub _ _ hF)
      cases rel
      obtain ⟨ep, hat⟩ := dd.dictAt
      obtain ⟨od, es, hod, hcd, hdd, _, hpr, _⟩ := id hat
      have e0 : es.toList = [] := by
        have := hpr.length
        simpa using this
      refine ⟨_, by
        simp only [rpy]
        exact .dict hod hcd.1 hdd (as := []) (bs := []) (by rw [e0]; exact .nil) (by rw [e0]; exact .nil), ?_⟩
      simp only [List.append_nil, List.mem_singleton]
      intro e
      rw [← e] at hd
      simp at hd
theorem Reps.reads (I : Inv X pins σ H s) (R : Good X.K H F M) (hs : ∃ o, X.base.get? sysModules = some o) : ∀ {ds : List D} {vs : List V} {us : List Value}, Reps X.K F vs ds → areR ds = true → Vals vs us → ∃ as, ReadsAll s.heap us (rpys ds) as ∧ sysModules ∉ as
  | [], _, us, p, _, r => by
    cases p
    cases r
    exact ⟨[], by simp only [rpys]; exact .nil, by simp⟩
  | d :: ds, _, us, p, h, r => by
    cases p with
    | cons p1 p2 =>
      cases r with
      | cons r1 r2 =>
        simp only [areR, Bool.and_eq_true] at h
        obtain ⟨a1, q1, n1⟩ := Rep.reads I R hs p1 h.1 r1
        obtain ⟨a2, q2, n2⟩ := Reps.reads I R hs p2 h.2 r2
        exact ⟨a1 ++ a2, by simp only [rpys]; exact .cons q1 q2, by simp [n1, n2]⟩
end
end
/-- what repr shows -/
def shN (d : D) : List Nat := (rpy d).shown.cps.toList
section
variable {X : Cx} {M : Mp} {Q : DQ} {d : D} {k : Nat}
theorem shN_rep {K : PySem.W.Frag} {F : Hp} : Rep K F (.str (rpy d).shown) (.str (shN d)) := by
  have e : (rpy d).shown = ⟨(shN d).toArray⟩ := by
    unfold shN
    rw [Array.toArray_toList]
  rw [e]
  exact .str _
theorem VC.repr (lo : Lo X k) (hs : ∃ o, X.base.get? sysModules = some o) (hd : isR d = true) (hz : (shN d).length ≤ sizeLine) (hp : (rpy d).depth ≤ 60) (h : Q (.str (shN d)) M) : VC X (.builtin "repr") [d] M Q := by
  intro pins s σ H F vs us I R r1 p1
  have hz' : (rpy d).shown.length ≤ sizeLine := by
    have : (shN d).length = (rpy d).shown.length := by simp [shN, Str.length]
    omega
  cases p1 with
  | cons p1 p2 =>
    cases p2
    cases r1 with
    | @cons v u _ _ r1 r2 =>
      cases r2
      have end_ : ∀ h' t tk, (∀ b o, s.heap.get? b = some o → h'.get? b = some o) → TEnd X pins σ H F M Q (.str (rpy d).shown t) { s with heap := h', toks := tk } := fun h' t tk hk =>
        ⟨.str (rpy d).shown, H, F, M, _, I.kept (t' := tk) hk, ⟨t, rfl⟩, Stp.refl R, shN_rep, h⟩
      obtain ⟨as, rd, na⟩ := Rep.reads I R hs p1 hd r1
      have sh := isR_show hd
      have big : ∀ a, u = .ref a → wpAny (model X.prog X.w) X.A (PySem.call (.builtin "repr") [u]) (TEnd X pins σ H F M Q) X.xe s := fun a e => by
        subst e
        exact repr_of_reads' rd sh (fun _ => na) lo.room.grd (by have := lo.u64; omega) (fun _ _ e => e) (fun h' t tk hk => end_ h' t tk hk) hz'
      cases p1 with
      | non =>
        obtain rfl : u = Value.none := r1
        exact PySem.P.repr_of_none (end_ s.heap _ _ fun _ _ e => e)
      | bl b =>
        obtain rfl : u = Value.bool b := r1
        simp only [rpy, PyData.shown] at end_
        exact PySem.P.repr_of_bool (end_ s.heap _ _ fun _ _ e => e)
      | int i =>
        obtain ⟨t', rfl⟩ := r1
        simp only [rpy, PyData.shown] at end_
        exact PySem.P.repr_of_int (by simpa [isR] using hd) (end_ s.heap _ _ fun _ _ e => e)
      | str x =>
        obtain ⟨t', rfl⟩ := r1
        simp only [rpy, PyData.shown] at end_ hz'
        exact PySem.P.repr_of_str (end_ s.heap _ _ fun _ _ e => e) hz'
      | tup _ _ => exact big _ r1
      | lst _ _ => exact big _ r1
      | dic _ _ => exact big _ r1
      | ty _ => simp [isR] at hd
      | ref _ => simp [isR] at hd
      | ins _ _ => simp [isR] at hd
      | xn _ _ => simp [isR] at hd
      | tun _ _ _ _ => simp [isR] at hd
end
end TL
end
section
set_option maxRecDepth 100000
set_option maxHeartbeats 2000000
/-! TW: the head's facts for exceptions and more; the law's end over tree values. -/
namespace TL
open PySem PySem.Spec PyProof.Rows L2
open He (ga ma fAd frG refsO)

/-! ### facts -/
abbrev FnY : Type := Option (Str × Str × Arguments × FuncBody × Scope × Addr × List Str × Addr)
def fnY (K : PySem.W.Frag) (p : Str × Option Str) : FnY := match K.lookup (fAd K p) with
  | some ⟨_, _, .func fd, _⟩ => some (fd.name, fd.qualname, fd.params, fd.body, fd.scope, fd.globals, fd.closure.map (·.1), fd.builtins)
  | _ => none
/-- an exception class's __init__ -/
structure BadD where
  cls : Str
  fl : Str
  qual : Str
  params : Arguments
  body : List Stmt
  scope : Scope
def BadD.val (d : BadD) : FnY := some ("__init__", d.qual, d.params, .stmts d.body, d.scope, mainGlobals, ["__class__"], builtinsNs)
def optB {α : Type} [DecidableEq α] (a b : Option α) : Bool := decide (a = b)
def cellB (K : PySem.W.Frag) (cl : List (Str × Addr)) (C : Addr) : Bool := match cl with
  | [(_, cc)] => (match K.lookup cc with
    | some ⟨_, _, .cell (some (.ref D)), _⟩ => decide (D = C)
    | _ => false)
  | _ => false
def fileB (K : PySem.W.Frag) (cd : PySem.Value) (file : Str) : Bool := match cd with
  | .ref c => (match K.lookup c with
    | some ⟨_, _, .fields vs, _⟩ => (match (vs[2]? : Option Value) with
      | some (Value.str f _) => decide (file = f)
      | _ => false)
    | _ => false)
  | _ => false
def clsB (K : PySem.W.Frag) (C : Addr) : Bool := match PySem.W.clsIn K C with
  | some cd => cd.hasDict && PySem.W.excTail exB cd.mro
  | none => false
def noneV : Value → Bool
  | .none => true
  | _ => false
theorem noneV_ok {v : Value} (h : noneV v = true) : v = .none := by cases v <;> first | rfl | cases h
def badB (file : Str) (d : BadD) (K : PySem.W.Frag) : Bool :=
  let C := ga K d.cls
  let f := ma K C "__init__"
  PySem.W.excInitIn K C exB "Exception.__new__" && (clsB K C && (optB (PySem.W.findIn K (.ref C) "__setattr__") (some (some (.builtin "object.__setattr__"))) && (optB (PySem.W.subIn K (.ref C) (.type "BaseException")) (some true) &&
  (optB (PySem.W.subIn K (.ref C) (.type "Exception")) (some true) && (optB (PySem.W.mroIn K C (.type "object")) (some true) && (optB (PySem.W.mroIn K C (.ref C)) (some true) && (optB (PySem.W.typeIn K (.ref C)) (some (.type "type")) &&
  (PySem.W.keepIn K (.ref C) && (optB (PySem.W.findIn K (.ref C) "__init__") (some (some (.ref f))) && (optB (PySem.W.typeIn K (.ref f)) (some (.type "function")) && (optB (PySem.W.findIn K (.ref C) d.fl) (some none) &&
  (optB (PySem.W.ks_superIn K C C "__init__") (some (some (.builtin "Exception.__init__"))) && (optB (PySem.W.nsIn K cStatics "thirdparty.any") (some none) && (match K.lookup f with
    | some ⟨_, _, .func fd, _⟩ => PySem.W.codeIn K fd.code d.qual && (cellB K fd.closure C && (fileB K fd.code file && noneV fd.defaults))
    | _ => false))))))))))))))
theorem optB_ok {α : Type} [DecidableEq α] {a b : Option α} (h : optB a b = true) : a = b := of_decide_eq_true h
theorem an {a b : Bool} (h : (a && b) = true) : a = true ∧ b = true := Bool.and_eq_true_iff.mp h
theorem bad_ok {P : Program} {K : PySem.W.Frag} {d : BadD} (e : fnY K (d.cls, some "__init__") = d.val) (h : badB P.main.file d K = true) {p0 p1 p2 p3 p4 p5 p6 p7 p8 p9 : Pos} (hb : d.body = badBody d.fl p0 p1 p2 p3 p4 p5 p6 p7 p8 p9) (hs : d.scope = badScope d.fl)
    (hp : (d.params.posonlyargs ++ d.params.args).head?.map (·.arg) = some ("self" : Str)) (hline : (p2.endLine == p4.line) = true) (htop : (P.main.scope.names.lookup ("super" : Str)).isSome = false) :
    ∃ fd, BadI P K (ga K d.cls) (ma K (ga K d.cls) "__init__") d.fl fd ∧ ∃ kV doc pm cda cc ct an, fd = PySem.W.fnX "__init__" d.qual d.params d.body d.scope [("__class__", cc)] .none kV doc pm an (.ref cda) ct := by
  unfold badB at h
  obtain ⟨h1, h⟩ := an h
  obtain ⟨h2, h⟩ := an h
  obtain ⟨h3, h⟩ := an h
  obtain ⟨h4, h⟩ := an h
  obtain ⟨h5, h⟩ := an h
  obtain ⟨h6, h⟩ := an h
  obtain ⟨h7, h⟩ := an h
  obtain ⟨h8, h⟩ := an h
  obtain ⟨h9, h⟩ := an h
  obtain ⟨h10, h⟩ := an h
  obtain ⟨h11, h⟩ := an h
  obtain ⟨h12, h⟩ := an h
  obtain ⟨h13, h⟩ := an h
  obtain ⟨h14, h⟩ := an h
  unfold fnY at e
  have ef : fAd K (d.cls, some ("__init__" : Str)) = ma K (ga K d.cls) "__init__" := rfl
  rw [ef] at e
  cases q : K.lookup (ma K (ga K d.cls) "__init__") with
  | none =>
    rw [q] at h
    cases h
  | some o =>
    obtain ⟨oc, od, dt, osl⟩ := o
    rw [q] at h e
    cases dt with
    | func fd =>
      obtain ⟨n1, n2, n3, n4, n5, n6, n7, n8, n9, n10, n11, n12, n13, n14, n15⟩ := fd
      have e2 : (some (n1, n2, n3, n4, n5, n6, n7.map (·.1), n15) : FnY) = some (("__init__" : Str), d.qual, d.params, .stmts d.body, d.scope, mainGlobals, [("__class__" : Str)], builtinsNs) := e
      simp only [Option.some.injEq, Prod.mk.injEq] at e2
      obtain ⟨g1, g2, g3, g4, g5, g6, g7, g8⟩ := e2
      subst g1 g2 g3 g4 g5 g6 g8
      have h' : (PySem.W.codeIn K n13 d.qual && (cellB K n7 (ga K d.cls) && (fileB K n13 P.main.file && noneV n8))) = true := h
      obtain ⟨k1, k2⟩ := an h'
      obtain ⟨k3, k2b⟩ := an k2
      obtain ⟨k4, k5⟩ := an k2b
      obtain rfl := noneV_ok k5
      match n7, g7, k3 with
      | [(nm, cc)], g7, k3 =>
        obtain rfl : nm = ("__class__" : Str) := by simpa using g7
        unfold cellB at k3
        dsimp only at k3
        cases qc : K.lookup cc with
        | none => rw [qc] at k3; cases k3
        | some oc2 =>
          obtain ⟨c1, c2, c3, c4⟩ := oc2
          rw [qc] at k3
          cases c3 with
          | cell v =>
            cases v with
            | none => cases k3
            | some v =>
              cases v with
              | ref D =>
                obtain rfl : D = ga K d.cls := of_decide_eq_true k3
                unfold fileB at k4
                cases n13 with
                | ref cda =>
                  dsimp only at k4
                  cases qd : K.lookup cda with
                  | none => rw [qd] at k4; cases k4
                  | some od2 =>
                    obtain ⟨d1, d2, d3, d4⟩ := od2
                    rw [qd] at k4
                    cases d3 with
                    | fields vs =>
                      dsimp only at k4
                      cases qv : vs[2]? with
                      | none => rw [qv] at k4; cases k4
                      | some v2 =>
                        rw [qv] at k4
                        cases v2 with
                        | str f tf =>
                          have hf : P.main.file = f := of_decide_eq_true k4
                          refine ⟨_, ⟨h1, ?_, optB_ok h3, optB_ok h4, optB_ok h5, optB_ok h6, optB_ok h7, optB_ok h8, h9, optB_ok h10, optB_ok h11, optB_ok h12, optB_ok h13, optB_ok h14,
                            ⟨d.qual, p0, p1, p2, p3, p4, p5, p6, p7, p8, p9, d.params, .none, n9, n10, n11, n14, oc, c1, d1, n12, od, c2, d2, cda, cc, osl, c4, d4, vs, f, tf, rfl, hp, ?_, k1, qc, qd, qv, ?_, hline, htop⟩⟩, n9, n10, n11, cda, cc, n14, n12, ?_⟩
                          · unfold clsB at h2
                            cases z : PySem.W.clsIn K (ga K d.cls) with
                            | none => rw [z] at h2; cases h2
                            | some cd =>
                              rw [z] at h2
                              obtain ⟨z1, z2⟩ := an h2
                              exact ⟨cd, rfl, z1, z2⟩
                          · rw [← hb, ← hs]; exact q
                          · rw [hf]; exact beq_self_eq_true _
                          · rw [hb, hs]
                        | _ => cases k4
                    | _ => cases k4
                | _ => cases k4
              | _ => cases k3
          | _ => cases k3
    | _ => cases h
/-! ### the Hook -/
def asB (g : Addr → Option Obj) (n : Nat) : List Addr := cStatics :: sysModules :: He.asD g n
abbrev AlB : Type := He.AlT × List FnY × Bool
section
variable (n : Nat) (fa : List He.Fa) (fn : List He.DefD) (ts : List He.Tab) (bs : List BadD) (fb : List (PySem.W.Frag → Bool))
def obsB (K : PySem.W.Frag) : AlB := (He.obsT fa fn ts K, bs.map fun d => fnY K (d.cls, some "__init__"), fb.all fun f => f K)
def valB (w : World) : AlB := (He.valT fn ts w, bs.map BadD.val, true)
def SaysB (w : World) (K : PySem.W.Frag) : Prop := obsB fa fn ts bs fb K = valB fn ts bs w
def obsBG (g : Addr → Option Obj) : AlB := obsB fa fn ts bs fb (frG g (asB g n))
def hookB : PySem.W.Hook where
  α := AlB
  obs := fun s => obsBG n fa fn ts bs fb s.heap.get?
  val := fun w => valB fn ts bs w
  says := fun w h => ∃ K : PySem.W.Frag, K.In h ∧ SaysB fa fn ts bs fb w K
  of := fun _ _ e => ⟨_, He.frG_in, e⟩
  keeps := fun _ _ _ ⟨K, hK, c⟩ k => ⟨K, PySem.W.Frag.In.keeps hK k, c⟩
theorem obsBG_eq {g : Addr → Option Obj} {s : Shared} (h : ∀ a, g a = s.heap.get? a) : obsBG n fa fn ts bs fb g = (hookB n fa fn ts bs fb).obs s := by
  have e : g = s.heap.get? := funext h
  rw [e] <;> rfl
end
section
variable {fa : List He.Fa} {fn : List He.DefD} {ts : List He.Tab} {bs : List BadD} {fb : List (PySem.W.Frag → Bool)} {w : World} {K : PySem.W.Frag}
theorem SaysB.t (c : SaysB fa fn ts bs fb w K) : He.SaysT fa fn ts w K := congrArg (fun z : AlB => z.1) c
theorem SaysB.b (c : SaysB fa fn ts bs fb w K) (i : Nat) {f : PySem.W.Frag → Bool} (h : fb[i]? = some f := by rfl) : f K = true := by
  have c1 : (fb.all fun f => f K) = true := congrArg (fun z : AlB => z.2.2) c
  exact List.all_eq_true.mp c1 f (List.mem_of_getElem? h)
theorem SaysB.bad (c : SaysB fa fn ts bs fb w K) (i : Nat) {d : BadD} (h : bs[i]? = some d := by rfl) : fnY K (d.cls, some "__init__") = d.val := by
  have c1 : bs.map (fun d => fnY K (d.cls, some "__init__")) = bs.map BadD.val := congrArg (fun z : AlB => z.2.1) c
  have c2 : (bs.map fun d => fnY K (d.cls, some "__init__"))[i]? = (bs.map BadD.val)[i]? := by rw [c1]
  rw [List.getElem?_map, List.getElem?_map, h] at c2
  exact Option.some.inj c2
/-- the function object -/
def fdOf (K : PySem.W.Frag) (p : Str × Option Str) : FuncData := match K.lookup (fAd K p) with
  | some ⟨_, _, .func fd, _⟩ => fd
  | _ => { name := "", qualname := "", params := ⟨[], [], none, [], [], none, []⟩, body := .stmts [], scope := ⟨.function, [], false, false, []⟩, globals := 0, closure := [], defaults := .none, kwdefaults := .none, doc := .none, pyModule := .none, annotations := none, code := .none, closureTuple := .none, builtins := 0 }
theorem SaysB.fun_ (c : SaysB fa fn ts bs fb w K) (i : Nat) {d : He.DefD} (h : fn[i]? = some d := by rfl) : FunD K d.name d.qual d.params d.body d.scope (d.dvs K) (d.kws K) (fAd K d.at_) (fdOf K d.at_) := by
  obtain ⟨fd, F⟩ := c.t.d.def_ i h
  have e : fdOf K d.at_ = fd := by
    obtain ⟨oc, od, dV, kV, doc, pm, an, cdv, ct, osl, _, lk, _⟩ := F.ex
    unfold fdOf
    rw [lk]
  rw [e]
  exact F
end
/-- no list stands in the written part -/
def noLst (K : PySem.W.Frag) : Bool := K.all fun q => match q.2.cls with
  | .type c => !decide (c = "list")
  | _ => true
theorem noLst_ok {K : PySem.W.Frag} (h : noLst K = true) {a : Addr} {o : Obj} (ho : K.lookup a = some o) : o.cls ≠ .type "list" := fun e => by
  have hm : (a, o) ∈ K := by
    clear h e
    induction K with
    | nil => cases ho
    | cons p r ih =>
      obtain ⟨b, u⟩ := p
      have h2 : (match a == b with | true => some u | false => r.lookup a) = some o := ho
      cases q : a == b with
      | true =>
        rw [q] at h2
        cases h2
        rw [beq_iff_eq.mp q]
        exact List.mem_cons_self
      | false =>
        rw [q] at h2
        exact List.mem_cons_of_mem _ (ih h2)
  have h2 := List.all_eq_true.mp h _ hm
  dsimp only at h2
  rw [e] at h2
  simp at h2
/-- sys.modules stands in the written part -/
def sysB (K : PySem.W.Frag) : Bool := (K.lookup sysModules).isSome

/-! ### the end -/
theorem callerA_grd : callerA.guards = some [] := by first | rfl | decide | (unfold callerA; rfl)
theorem law_callT {P : Program} {w : World} {K : PySem.W.Frag} {mg mb : Str → Option Value} {k : Nat} {fa a : Addr} {fd : FuncData} {x : Str} {s₁ : Shared} {vs : List Value} {ns : List Int}
    (KX : K.In s₁.heap) (hno : noLst K = true) (hns : s₁.heap.Ns mainGlobals mg) (hb : s₁.heap.Ns builtinsNs mb) (hbb : ∀ x : Str, x ≠ "__name__" → mb x = bootBuiltins x) (hlim : s₁.heap.NoLimit) (hg : s₁.gens = #[])
    (ha : s₁.heap.get? a = some { cls := .type "list", data := .seq vs.toArray }) (hi : IntsAre vs ns) (hl : ns.length ≤ sizeLine) (hr : GRoom k callerA)
    (T : ∀ base : Heap, K.In base → base.Ns mainGlobals mg → TFn P w K mg base k fa fd [x] [.lst (ns.map D.int)] (fun _ => none) fun d _ => d = .bl true) (hbind : ∀ (s : Shared) (u : Value), BindsTo s fd ⟨[u], []⟩ [(x, u)]) :
    codeAny (model P w) callerA (.call (.ref fa) ⟨[.ref a], []⟩) (fun r s' => r = .ok (.ret (.bool true)) ∧ OldK s₁.heap s'.heap ∧ s'.os = s₁.os ∧ AllBare s'.gens) s₁ := by
  have rv := vals_ints hi
  have lenV := hi.length
  have hka : K.lookup a = none := by
    cases q : K.lookup a with
    | none => rfl
    | some o =>
      have e := KX a o q
      rw [ha] at e
      cases e
      exact absurd rfl (noLst_ok hno q)
  let H : Hp := fun b => if b = a then some (.frz { cls := .type "list", data := .seq vs.toArray } (.lst (ns.map V.int))) else none
  have Ha : H a = some (.frz { cls := .type "list", data := .seq vs.toArray } (.lst (ns.map V.int))) := if_pos rfl
  have Hn : ∀ {b : Addr}, b ≠ a → H b = none := fun h => if_neg h
  have only : ∀ {b : Addr}, H b ≠ none → b = a := fun {b} z => by
    by_cases hb : b = a
    · exact hb
    · exact absurd (Hn hb) z
  have hok : HOk P w H s₁.heap := fun b u z => by
    by_cases hb : b = a
    · subst hb
      rw [Ha] at z
      cases z
      exact ⟨ha, by rw [List.length_map]; exact hl, vs, _, rv, ha⟩
    · rw [Hn hb] at z; cases z
  have base_of : ∀ {b : Addr} {o : Obj}, s₁.heap.get? b = some o → H b = none → (hidT s₁.heap H).get? b = some o := fun e n => hidT_get e n
  have noA : ∀ {b : Addr} {o : Obj} {es : Array DictEntry} {ep : Nat}, s₁.heap.get? b = some o → o.data = .dict es ep → H b = none := fun {b o es ep} e d => by
    by_cases hb : b = a
    · subst hb
      rw [ha] at e
      cases e
      have d' : Data.seq vs.toArray _ = Data.dict es ep := d
      cases d'
    · exact Hn hb
  have nsK : ∀ {b : Addr} {m : Str → Option Value}, s₁.heap.Ns b m → (hidT s₁.heap H).Ns b m := fun {b m} ⟨o, es, ep, e, d, r⟩ => ⟨o, es, ep, base_of e (noA e d), d, r⟩
  have hKb : K.In (hidT s₁.heap H) := fun b o e => base_of (KX b o e) (Hn fun z => by rw [z, hka] at e; cases e)
  have hM : Mod K mg (hidT s₁.heap H) := ⟨hKb, nsK hns, ⟨mb, nsK hb, hbb⟩, let ⟨mc, h1, h2⟩ := hlim; ⟨mc, nsK h1, h2⟩⟩
  have e0 : Env0 P w K mg (hidT s₁.heap H) callerA [] s₁ H := ⟨rfl, hM, fun b o e => of_hidT e, Nat.le_of_eq (hidT_size _ _), trivial, fun b hb => absurd (show b ∈ ([] : List Addr) from hb) (by simp), hok, .of_eq hg⟩
  have good : Good K H H (fun _ => none) := ⟨Sub.refl H, fun _ _ z => (nomatch z), fun _ _ z => (nomatch z)⟩
  have rep : Rep K H (.ref a) (.lst (ns.map D.int)) := .lst (.inr ⟨_, Ha⟩) (rep_ints ns)
  refine codeAny_mono ((T _ hKb (nsK hns)).run callerA [] s₁ H H ⟨[.ref a], []⟩ [.ref a] [.ref a] hr e0 (hbind s₁ (.ref a)) (.cons rfl .nil) good (.cons rep .nil)) fun r s' h => ?_
  cases r with
  | error e => exact absurd h noX_cx
  | ok fl =>
    cases fl with
    | next => exact False.elim h
    | brk => exact False.elim h
    | cont => exact False.elim h
    | ret u =>
      obtain ⟨v, H', os, bare, un, hok', r', F', M', d, t, rp, q⟩ := h
      subst q
      cases rp
      obtain rfl : u = Value.bool true := r'
      refine ⟨rfl, OldK.of_keep fun b o e => ?_, os, bare⟩
      by_cases hb : b = a
      · have z2 := un.frzs b _ _ (hb ▸ Ha)
        obtain ⟨e1, _⟩ := hok b _ (hb ▸ Ha)
        obtain ⟨e2, _⟩ := hok' b _ z2
        rw [e] at e1
        cases e1
        exact e2
      · exact un.keep b o e (Hn hb) (by intro z; exact absurd (show b ∈ ([] : List Addr) from z) (by simp)) (by simp)
theorem walkT {l : PySem.W.OpenLaw} {n k : Nat} {q : Program} {loose : List Str} {XP : (Str → Option Value) → Heap → Prop} {YP : World → Heap → Prop} {d : DefRec} {x : Str}
    (hn : l.most = some n) (hn2 : n ≤ sizeLine) (hdf : d.params.defaults = []) (hr : Room k callerA)
    (F : ∀ (w : World) (mg : Str → Option Value) (fa : Addr) (h : Heap), YP w h → h.Ns mainGlobals mg → mg d.name = some (.ref fa) →
      ∃ (K : PySem.W.Frag) (fd : FuncData), K.In h ∧ noLst K = true ∧ (∀ (s : Shared) (u : Value), BindsTo s fd ⟨[u], []⟩ [(x, u)]) ∧
        ∀ ns : List Int, ns.length ≤ n → ∀ base : Heap, K.In base → base.Ns mainGlobals mg → TFn l.prog w K mg base k fa fd [x] [.lst (ns.map D.int)] (fun _ => none) fun d _ => d = .bl true) :
    PySem.W.WalkO q loose XP YP l.row.toRowW d [] (fun f vs => PySem.call f vs) := by
  refine Att.attach_call hn hdf fun w s₀ s₁ mg mb fa o pm cd doc a vs ns G Y ho hd hcd hmg hobj hints hlen hg => ?_
  obtain ⟨K, fd, KX, hno, hb, hF⟩ := F w mg fa _ Y G.T.g hmg
  exact law_callT KX hno G.T.g G.T.b G.T.builtins G.T.nolimit hg hobj hints (Nat.le_trans hlen hn2) ⟨hr, callerA_grd⟩ (fun base k1 k2 => hF ns hlen base k1 k2) hb
end TL
end
section
set_option maxRecDepth 100000
set_option maxHeartbeats 0
/-! K82A: the head. -/
namespace K82
open PySem PySem.Spec PyProof.Rows L2 TL
open He (ga ma fAd)
def top (i : Nat) : Stmt := PySem.Challenge.pw_loomhold_k82_presses_and_bars_of_any_val.main.body.getD i (.Pass ⟨0, 0, 0, 0⟩)
def clsBody (s : Stmt) : List Stmt := match s with
  | .ClassDef _ _ _ b _ _ _ _ _ _ _ => b
  | _ => []
def me (i j : Nat) : Stmt := (clsBody (top i)).getD j (.Pass ⟨0, 0, 0, 0⟩)
def dF (i : Nat) (x : Str) : He.DefD := ⟨(x, none), x, x, defArgs (top i), defBody (top i), defScope (top i), [], []⟩
def dM (i j : Nat) (C m q : Str) : He.DefD := ⟨(C, some m), m, q, defArgs (me i j), defBody (me i j), defScope (me i j), [], []⟩
def fn0 : List He.DefD := [dF 12 "is_whole", dF 13 "is_below", dF 14 "do_rise", dF 15 "is_lift_below", dF 20 "is_treadling", dF 25 "is_pick", dF 27 "pick_of", dF 28 "woven", dF 34 "is_press", dF 35 "are_presses", dF 36 "shafts_raised", dF 37 "woven_pressed", dF 38 "are_some_numbers", dF 39 "is_bar", dF 40 "crossings_raised"]
def fn1 : List He.DefD := [dF 41 "do_cover", dF 42 "bars_by", dF 44 "_law_deck", dF 45 "_law_draw", dF 46 "_law_pick", dF 47 "_law_loom", dF 48 "_law_is_whole", dF 49 "_law_bent", dF 50 "_law_presses", dF 51 "_law_is_press", dF 52 "_law_fault", dF 53 "_law_woven", dF 54 "_law_told", dF 55 "_law_value_right", dF 56 "_law_bars"]
def fn2 : List He.DefD := [dF 57 "_law_is_part", dF 58 "_law_is_bar", dF 59 "_law_is_cover", dF 60 "_law_cover_right", dF 61 "_law_long_right", dF 62 "law", dM 19 0 "Loom" "__init__" "Loom.__init__", dM 19 5 "Loom" "lift_of" "Loom.lift_of", dM 26 0 "Cloth" "__init__" "Cloth.__init__", dM 26 3 "Cloth" "__len__" "Cloth.__len__", dM 26 4 "Cloth" "__eq__" "Cloth.__eq__"]
def fn : List He.DefD := fn0 ++ fn1 ++ fn2
def fa0 : List He.Fa := [.glo "is_whole", .glo "is_below", .glo "do_rise", .glo "is_lift_below", .glo "is_treadling", .glo "is_pick", .glo "pick_of", .glo "woven", .glo "is_press", .glo "are_presses", .glo "shafts_raised", .glo "woven_pressed", .glo "are_some_numbers", .glo "is_bar", .glo "crossings_raised"]
def fa1 : List He.Fa := [.glo "do_cover", .glo "bars_by", .glo "_law_deck", .glo "_law_draw", .glo "_law_pick", .glo "_law_loom", .glo "_law_is_whole", .glo "_law_bent", .glo "_law_presses", .glo "_law_is_press", .glo "_law_fault", .glo "_law_woven", .glo "_law_told", .glo "_law_value_right", .glo "_law_bars"]
def fa2 : List He.Fa := [.glo "_law_is_part", .glo "_law_is_bar", .glo "_law_is_cover", .glo "_law_cover_right", .glo "_law_long_right", .glo "law", .glo "Loom", .glo "Cloth", .glo "BadPress", .glo "LoomError", .glo "OTHER", .free "all", .free "bool", .free "dict", .free "enumerate"]
def fa3 : List He.Fa := [.free "int", .free "isinstance", .free "len", .free "list", .free "range", .free "repr", .free "set", .free "sorted", .free "str", .free "sum", .free "super", .free "tuple", .free "zip", .str "TREADLES" "abcdefghijklmnopqrstuvwxyz", .str "DIGITS" "0123456789"]
def fa4 : List He.Fa := [.str "ABOVE" "x", .str "BELOW" "-", .str "RAISED" "x", .str "LOWERED" "-", .int "MOST_SHAFTS" 99, .int "PAIR" 2, .int "NO_TUPLE" (-1), .cls "Loom", .cls "Cloth", .mkr "Loom", .mkr "Cloth", .meth "Loom" "lift_of", .noat "Loom" "shafts", .noat "Loom" "threading", .noat "Loom" "lifts"]
def fa5 : List He.Fa := [.noat "Loom" "letters", .noat "Loom" "used", .noat "Cloth" "picks", .noat "Cloth" "ends", .exm "BadPress" "BadPress" true]
def fa : List He.Fa := fa0 ++ fa1 ++ fa2 ++ fa3 ++ fa4 ++ fa5
def ts : List He.Tab := [(fun K => ga K "OTHER", ["x", "-"])]
def dBad_BadPress : BadD := ⟨"BadPress", "number", "BadPress.__init__", defArgs (me 7 0), defBody (me 7 0), defScope (me 7 0)⟩
def bs : List BadD := [dBad_BadPress]
def isB (C : Str) (K : PySem.W.Frag) : Bool := optB (PySem.W.findIn K (.ref (ga K C)) "__class__") (some (some (.builtin "object.__class__"))) && (optB (PySem.W.specialIn K (.builtin "object.__class__") "__get__") (some (some (.builtin "getset_descriptor.__get__"))) &&
  (optB (PySem.W.takesIn K (.builtin "object.__class__")) (some true) && optB (PySem.W.mroIn K (ga K C) (.type "object")) (some true)))
def kitB2 (C L : Str) (K : PySem.W.Frag) : Bool := optB (PySem.W.kitOne K (.ref (ga K C)) (.ref (ga K L))) (some true)
def specB (C m : Str) (K : PySem.W.Frag) : Bool := optB (PySem.W.findIn K (.ref (ga K C)) m) (some (some (.ref (ma K (ga K C) m)))) && PySem.W.isFn K (.ref (ma K (ga K C) m))
def neB (C : Str) (K : PySem.W.Frag) : Bool := optB (PySem.W.findIn K (.ref (ga K C)) "__ne__") (some (some (.builtin "object.__ne__")))
def excCB (C : Str) (K : PySem.W.Frag) : Bool := L2.xfB K (ga K C) && isB C K
def noxB (C f : Str) (K : PySem.W.Frag) : Bool := optB (PySem.W.findIn K (.ref (ga K C)) f) (some none)
def inB (d x : Str) (K : PySem.W.Frag) : Bool := match PySem.W.nsIn K (ga K d) x with
  | some (some _) => true
  | _ => false
def fb0 : List (PySem.W.Frag → Bool) := [noLst, sysB, badB PySem.Challenge.pw_loomhold_k82_presses_and_bars_of_any_val.main.file dBad_BadPress, isB "Loom", isB "Cloth", kitB2 "Loom" "Loom", kitB2 "Cloth" "Cloth", kitB2 "BadPress" "LoomError", specB "Cloth" "__len__", specB "Cloth" "__eq__", neB "Cloth", excCB "BadPress", noxB "BadPress" "number", inB "OTHER" "x", inB "OTHER" "-"]
def fb : List (PySem.W.Frag → Bool) := fb0
abbrev R : PySem.W.OpenRow := PySem.W.OpenLaw.row PySem.Challenge.rw_loomhold_k82_presses_and_bars_of_any_val
abbrev hk : PySem.W.Hook := hookB 4 fa fn ts bs fb
def ob (s : PySem.W.SharedT) : AlB := obsBG 4 fa fn ts bs fb (HandSHeadRun.getT s)
theorem ob_eq (s : PySem.W.SharedT) : ob s = hk.obs s.abs := obsBG_eq 4 fa fn ts bs fb (HandSHeadRun.getT_eq s)
def loose0 : List PySem.Str := ["_wall", "LoomError", "BadLoom", "BadCloth", "BadText", "BadTreadling", "BadPress", "TREADLES", "MOST_SHAFTS", "DIGITS", "is_whole", "is_below", "do_rise", "is_lift_below", "numbers_of", "row_numbers", "lift_of_line", "Loom", "is_treadling", "ABOVE"]
def loose1 : List PySem.Str := ["BELOW", "OTHER", "is_pick", "Cloth", "pick_of", "woven", "RAISED", "LOWERED", "PAIR", "NO_TUPLE", "is_press", "are_presses", "shafts_raised", "woven_pressed", "are_some_numbers", "is_bar", "crossings_raised", "do_cover", "bars_by", "_law_deck"]
def loose2 : List PySem.Str := ["_law_draw", "_law_pick", "_law_loom", "_law_is_whole", "_law_bent", "_law_presses", "_law_is_press", "_law_fault", "_law_woven", "_law_told", "_law_value_right", "_law_bars", "_law_is_part", "_law_is_bar", "_law_is_cover", "_law_cover_right", "_law_long_right"]
def loose : List PySem.Str := loose0 ++ loose1 ++ loose2
theorem runF (w : World) : HandSHeadRun.RunEq R (PySem.W.view R.prog [62]) hk ob 8000 loose (w.withFollow "special-get-raises" false) := by
  intro os
  kernel_rfl
theorem runT (w : World) : HandSHeadRun.RunEq R (PySem.W.view R.prog [62]) hk ob 8000 loose (w.withFollow "special-get-raises" true) := by
  intro os
  kernel_rfl
theorem run (w : World) : HandSHeadRun.RunEq R (PySem.W.view R.prog [62]) hk ob 8000 loose w :=
  PySem.W.byRow2 "special-get-raises" (P := fun w => HandSHeadRun.RunEq R (PySem.W.view R.prog [62]) hk ob 8000 loose w) runF runT w
end K82
end
section
set_option maxRecDepth 100000
set_option maxHeartbeats 0
/-! K82B: the defs, their facts. -/
namespace K82
open PySem PySem.Spec PyProof.Rows L2 TL
open He (ga ma fAd)
abbrev P82 : Program := PySem.Challenge.pw_loomhold_k82_presses_and_bars_of_any_val
structure E82 (w : World) (K : PySem.W.Frag) (mg : Str → Option Value) (base : Heap) : Prop where
  kin : K.In base
  ns : base.Ns mainGlobals mg
  says : SaysB fa fn ts bs fb w K
section
variable {w : World} {K : PySem.W.Frag} {mg : Str → Option Value} {base : Heap}
/-- 0 thing -/
abbrev n_is_whole : List Str := ["thing"]
abbrev q_is_whole : Scope := defScope (top 12)
theorem s_is_whole : FnScope n_is_whole ["thing"] q_is_whole := ⟨rfl, rfl, rfl, by decide +kernel, rfl, by decide +kernel, by decide +kernel⟩
theorem E82.f_is_whole (c : E82 w K mg base) : FunD K "is_whole" "is_whole" (defArgs (top 12)) (defBody (top 12)) q_is_whole [] [] (ga K "is_whole") (fdOf K ("is_whole", none)) := c.says.fun_ 0
theorem E82.b_is_whole (c : E82 w K mg base) : Binds K (fdOf K ("is_whole", none)) ["thing"] [] := c.f_is_whole.bindsN fun _ _ _ _ _ _ us hl => match us, hl with | [_], _ => rfl
theorem E82.g_is_whole (c : E82 w K mg base) : mg "is_whole" = some (.ref (ga K "is_whole")) := He.glo_ok c.kin c.ns (c.says.t.d.fact 0)
/-- 0 thing, 1 bound -/
abbrev n_is_below : List Str := ["thing", "bound"]
abbrev q_is_below : Scope := defScope (top 13)
theorem s_is_below : FnScope n_is_below ["thing", "bound"] q_is_below := ⟨rfl, rfl, rfl, by decide +kernel, rfl, by decide +kernel, by decide +kernel⟩
theorem E82.f_is_below (c : E82 w K mg base) : FunD K "is_below" "is_below" (defArgs (top 13)) (defBody (top 13)) q_is_below [] [] (ga K "is_below") (fdOf K ("is_below", none)) := c.says.fun_ 1
theorem E82.b_is_below (c : E82 w K mg base) : Binds K (fdOf K ("is_below", none)) ["thing", "bound"] [] := c.f_is_below.bindsN fun _ _ _ _ _ _ us hl => match us, hl with | [_, _], _ => rfl
theorem E82.g_is_below (c : E82 w K mg base) : mg "is_below" = some (.ref (ga K "is_below")) := He.glo_ok c.kin c.ns (c.says.t.d.fact 1)
/-- 0 numbers, 1 one, 2 other -/
abbrev n_do_rise : List Str := ["numbers", "one", "other"]
abbrev q_do_rise : Scope := defScope (top 14)
theorem s_do_rise : FnScope n_do_rise ["numbers"] q_do_rise := ⟨rfl, rfl, rfl, by decide +kernel, rfl, by decide +kernel, by decide +kernel⟩
theorem E82.f_do_rise (c : E82 w K mg base) : FunD K "do_rise" "do_rise" (defArgs (top 14)) (defBody (top 14)) q_do_rise [] [] (ga K "do_rise") (fdOf K ("do_rise", none)) := c.says.fun_ 2
theorem E82.b_do_rise (c : E82 w K mg base) : Binds K (fdOf K ("do_rise", none)) ["numbers"] [] := c.f_do_rise.bindsN fun _ _ _ _ _ _ us hl => match us, hl with | [_], _ => rfl
theorem E82.g_do_rise (c : E82 w K mg base) : mg "do_rise" = some (.ref (ga K "do_rise")) := He.glo_ok c.kin c.ns (c.says.t.d.fact 2)
/-- 0 shafts, 1 thing, 2 shaft -/
abbrev n_is_lift_below : List Str := ["shafts", "thing", "shaft"]
abbrev q_is_lift_below : Scope := defScope (top 15)
theorem s_is_lift_below : FnScope n_is_lift_below ["shafts", "thing"] q_is_lift_below := ⟨rfl, rfl, rfl, by decide +kernel, rfl, by decide +kernel, by decide +kernel⟩
theorem E82.f_is_lift_below (c : E82 w K mg base) : FunD K "is_lift_below" "is_lift_below" (defArgs (top 15)) (defBody (top 15)) q_is_lift_below [] [] (ga K "is_lift_below") (fdOf K ("is_lift_below", none)) := c.says.fun_ 3
theorem E82.b_is_lift_below (c : E82 w K mg base) : Binds K (fdOf K ("is_lift_below", none)) ["shafts", "thing"] [] := c.f_is_lift_below.bindsN fun _ _ _ _ _ _ us hl => match us, hl with | [_, _], _ => rfl
theorem E82.g_is_lift_below (c : E82 w K mg base) : mg "is_lift_below" = some (.ref (ga K "is_lift_below")) := He.glo_ok c.kin c.ns (c.says.t.d.fact 3)
/-- 0 loom, 1 thing, 2 sign -/
abbrev n_is_treadling : List Str := ["loom", "thing", "sign"]
abbrev q_is_treadling : Scope := defScope (top 20)
theorem s_is_treadling : FnScope n_is_treadling ["loom", "thing"] q_is_treadling := ⟨rfl, rfl, rfl, by decide +kernel, rfl, by decide +kernel, by decide +kernel⟩
theorem E82.f_is_treadling (c : E82 w K mg base) : FunD K "is_treadling" "is_treadling" (defArgs (top 20)) (defBody (top 20)) q_is_treadling [] [] (ga K "is_treadling") (fdOf K ("is_treadling", none)) := c.says.fun_ 4
theorem E82.b_is_treadling (c : E82 w K mg base) : Binds K (fdOf K ("is_treadling", none)) ["loom", "thing"] [] := c.f_is_treadling.bindsN fun _ _ _ _ _ _ us hl => match us, hl with | [_, _], _ => rfl
theorem E82.g_is_treadling (c : E82 w K mg base) : mg "is_treadling" = some (.ref (ga K "is_treadling")) := He.glo_ok c.kin c.ns (c.says.t.d.fact 4)
/-- 0 thing, 1 sign -/
abbrev n_is_pick : List Str := ["thing", "sign"]
abbrev q_is_pick : Scope := defScope (top 25)
theorem s_is_pick : FnScope n_is_pick ["thing"] q_is_pick := ⟨rfl, rfl, rfl, by decide +kernel, rfl, by decide +kernel, by decide +kernel⟩
theorem E82.f_is_pick (c : E82 w K mg base) : FunD K "is_pick" "is_pick" (defArgs (top 25)) (defBody (top 25)) q_is_pick [] [] (ga K "is_pick") (fdOf K ("is_pick", none)) := c.says.fun_ 5
theorem E82.b_is_pick (c : E82 w K mg base) : Binds K (fdOf K ("is_pick", none)) ["thing"] [] := c.f_is_pick.bindsN fun _ _ _ _ _ _ us hl => match us, hl with | [_], _ => rfl
theorem E82.g_is_pick (c : E82 w K mg base) : mg "is_pick" = some (.ref (ga K "is_pick")) := He.glo_ok c.kin c.ns (c.says.t.d.fact 5)
/-- 0 loom, 1 letter, 2 lift, 3 shaft -/
abbrev n_pick_of : List Str := ["loom", "letter", "lift", "shaft"]
abbrev q_pick_of : Scope := defScope (top 27)
theorem s_pick_of : FnScope n_pick_of ["loom", "letter"] q_pick_of := ⟨rfl, rfl, rfl, by decide +kernel, rfl, by decide +kernel, by decide +kernel⟩
theorem E82.f_pick_of (c : E82 w K mg base) : FunD K "pick_of" "pick_of" (defArgs (top 27)) (defBody (top 27)) q_pick_of [] [] (ga K "pick_of") (fdOf K ("pick_of", none)) := c.says.fun_ 6
theorem E82.b_pick_of (c : E82 w K mg base) : Binds K (fdOf K ("pick_of", none)) ["loom", "letter"] [] := c.f_pick_of.bindsN fun _ _ _ _ _ _ us hl => match us, hl with | [_, _], _ => rfl
theorem E82.g_pick_of (c : E82 w K mg base) : mg "pick_of" = some (.ref (ga K "pick_of")) := He.glo_ok c.kin c.ns (c.says.t.d.fact 6)
/-- 0 loom, 1 treadling, 2 rows, 3 letter -/
abbrev n_woven : List Str := ["loom", "treadling", "rows", "letter"]
abbrev q_woven : Scope := defScope (top 28)
theorem s_woven : FnScope n_woven ["loom", "treadling"] q_woven := ⟨rfl, rfl, rfl, by decide +kernel, rfl, by decide +kernel, by decide +kernel⟩
theorem E82.f_woven (c : E82 w K mg base) : FunD K "woven" "woven" (defArgs (top 28)) (defBody (top 28)) q_woven [] [] (ga K "woven") (fdOf K ("woven", none)) := c.says.fun_ 7
theorem E82.b_woven (c : E82 w K mg base) : Binds K (fdOf K ("woven", none)) ["loom", "treadling"] [] := c.f_woven.bindsN fun _ _ _ _ _ _ us hl => match us, hl with | [_, _], _ => rfl
theorem E82.g_woven (c : E82 w K mg base) : mg "woven" = some (.ref (ga K "woven")) := He.glo_ok c.kin c.ns (c.says.t.d.fact 7)
/-- 0 loom, 1 thing, 2 letter -/
abbrev n_is_press : List Str := ["loom", "thing", "letter"]
abbrev q_is_press : Scope := defScope (top 34)
theorem s_is_press : FnScope n_is_press ["loom", "thing"] q_is_press := ⟨rfl, rfl, rfl, by decide +kernel, rfl, by decide +kernel, by decide +kernel⟩
theorem E82.f_is_press (c : E82 w K mg base) : FunD K "is_press" "is_press" (defArgs (top 34)) (defBody (top 34)) q_is_press [] [] (ga K "is_press") (fdOf K ("is_press", none)) := c.says.fun_ 8
theorem E82.b_is_press (c : E82 w K mg base) : Binds K (fdOf K ("is_press", none)) ["loom", "thing"] [] := c.f_is_press.bindsN fun _ _ _ _ _ _ us hl => match us, hl with | [_, _], _ => rfl
theorem E82.g_is_press (c : E82 w K mg base) : mg "is_press" = some (.ref (ga K "is_press")) := He.glo_ok c.kin c.ns (c.says.t.d.fact 8)
/-- 0 loom, 1 thing, 2 item -/
abbrev n_are_presses : List Str := ["loom", "thing", "item"]
abbrev q_are_presses : Scope := defScope (top 35)
theorem s_are_presses : FnScope n_are_presses ["loom", "thing"] q_are_presses := ⟨rfl, rfl, rfl, by decide +kernel, rfl, by decide +kernel, by decide +kernel⟩
theorem E82.f_are_presses (c : E82 w K mg base) : FunD K "are_presses" "are_presses" (defArgs (top 35)) (defBody (top 35)) q_are_presses [] [] (ga K "are_presses") (fdOf K ("are_presses", none)) := c.says.fun_ 9
theorem E82.b_are_presses (c : E82 w K mg base) : Binds K (fdOf K ("are_presses", none)) ["loom", "thing"] [] := c.f_are_presses.bindsN fun _ _ _ _ _ _ us hl => match us, hl with | [_, _], _ => rfl
theorem E82.g_are_presses (c : E82 w K mg base) : mg "are_presses" = some (.ref (ga K "are_presses")) := He.glo_ok c.kin c.ns (c.says.t.d.fact 9)
/-- 0 loom, 1 press, 2 letter, 3 shaft -/
abbrev n_shafts_raised : List Str := ["loom", "press", "letter", "shaft"]
abbrev q_shafts_raised : Scope := defScope (top 36)
theorem s_shafts_raised : FnScope n_shafts_raised ["loom", "press"] q_shafts_raised := ⟨rfl, rfl, rfl, by decide +kernel, rfl, by decide +kernel, by decide +kernel⟩
theorem E82.f_shafts_raised (c : E82 w K mg base) : FunD K "shafts_raised" "shafts_raised" (defArgs (top 36)) (defBody (top 36)) q_shafts_raised [] [] (ga K "shafts_raised") (fdOf K ("shafts_raised", none)) := c.says.fun_ 10
theorem E82.b_shafts_raised (c : E82 w K mg base) : Binds K (fdOf K ("shafts_raised", none)) ["loom", "press"] [] := c.f_shafts_raised.bindsN fun _ _ _ _ _ _ us hl => match us, hl with | [_, _], _ => rfl
theorem E82.g_shafts_raised (c : E82 w K mg base) : mg "shafts_raised" = some (.ref (ga K "shafts_raised")) := He.glo_ok c.kin c.ns (c.says.t.d.fact 10)
/-- 0 loom, 1 presses, 2 picks, 3 number, 4 press, 5 raised, 6 shaft -/
abbrev n_woven_pressed : List Str := ["loom", "presses", "picks", "number", "press", "raised", "shaft"]
abbrev q_woven_pressed : Scope := defScope (top 37)
theorem s_woven_pressed : FnScope n_woven_pressed ["loom", "presses"] q_woven_pressed := ⟨rfl, rfl, rfl, by decide +kernel, rfl, by decide +kernel, by decide +kernel⟩
theorem E82.f_woven_pressed (c : E82 w K mg base) : FunD K "woven_pressed" "woven_pressed" (defArgs (top 37)) (defBody (top 37)) q_woven_pressed [] [] (ga K "woven_pressed") (fdOf K ("woven_pressed", none)) := c.says.fun_ 11
theorem E82.b_woven_pressed (c : E82 w K mg base) : Binds K (fdOf K ("woven_pressed", none)) ["loom", "presses"] [] := c.f_woven_pressed.bindsN fun _ _ _ _ _ _ us hl => match us, hl with | [_, _], _ => rfl
theorem E82.g_woven_pressed (c : E82 w K mg base) : mg "woven_pressed" = some (.ref (ga K "woven_pressed")) := He.glo_ok c.kin c.ns (c.says.t.d.fact 11)
/-- 0 many, 1 thing, 2 item, 3 one, 4 other -/
abbrev n_are_some_numbers : List Str := ["many", "thing", "item", "one", "other"]
abbrev q_are_some_numbers : Scope := defScope (top 38)
theorem s_are_some_numbers : FnScope n_are_some_numbers ["many", "thing"] q_are_some_numbers := ⟨rfl, rfl, rfl, by decide +kernel, rfl, by decide +kernel, by decide +kernel⟩
theorem E82.f_are_some_numbers (c : E82 w K mg base) : FunD K "are_some_numbers" "are_some_numbers" (defArgs (top 38)) (defBody (top 38)) q_are_some_numbers [] [] (ga K "are_some_numbers") (fdOf K ("are_some_numbers", none)) := c.says.fun_ 12
theorem E82.b_are_some_numbers (c : E82 w K mg base) : Binds K (fdOf K ("are_some_numbers", none)) ["many", "thing"] [] := c.f_are_some_numbers.bindsN fun _ _ _ _ _ _ us hl => match us, hl with | [_, _], _ => rfl
theorem E82.g_are_some_numbers (c : E82 w K mg base) : mg "are_some_numbers" = some (.ref (ga K "are_some_numbers")) := He.glo_ok c.kin c.ns (c.says.t.d.fact 12)
/-- 0 cloth, 1 thing, 2 picks, 3 ends, 4 pick, 5 end -/
abbrev n_is_bar : List Str := ["cloth", "thing", "picks", "ends", "pick", "end"]
abbrev q_is_bar : Scope := defScope (top 39)
theorem s_is_bar : FnScope n_is_bar ["cloth", "thing"] q_is_bar := ⟨rfl, rfl, rfl, by decide +kernel, rfl, by decide +kernel, by decide +kernel⟩
theorem E82.f_is_bar (c : E82 w K mg base) : FunD K "is_bar" "is_bar" (defArgs (top 39)) (defBody (top 39)) q_is_bar [] [] (ga K "is_bar") (fdOf K ("is_bar", none)) := c.says.fun_ 13
theorem E82.b_is_bar (c : E82 w K mg base) : Binds K (fdOf K ("is_bar", none)) ["cloth", "thing"] [] := c.f_is_bar.bindsN fun _ _ _ _ _ _ us hl => match us, hl with | [_, _], _ => rfl
theorem E82.g_is_bar (c : E82 w K mg base) : mg "is_bar" = some (.ref (ga K "is_bar")) := He.glo_ok c.kin c.ns (c.says.t.d.fact 13)
/-- 0 cloth, 1 pick, 2 signs, 3 end, 4 sign -/
abbrev n_crossings_raised : List Str := ["cloth", "pick", "signs", "end", "sign"]
abbrev q_crossings_raised : Scope := defScope (top 40)
theorem s_crossings_raised : FnScope n_crossings_raised ["cloth"] q_crossings_raised := ⟨rfl, rfl, rfl, by decide +kernel, rfl, by decide +kernel, by decide +kernel⟩
theorem E82.f_crossings_raised (c : E82 w K mg base) : FunD K "crossings_raised" "crossings_raised" (defArgs (top 40)) (defBody (top 40)) q_crossings_raised [] [] (ga K "crossings_raised") (fdOf K ("crossings_raised", none)) := c.says.fun_ 14
theorem E82.b_crossings_raised (c : E82 w K mg base) : Binds K (fdOf K ("crossings_raised", none)) ["cloth"] [] := c.f_crossings_raised.bindsN fun _ _ _ _ _ _ us hl => match us, hl with | [_], _ => rfl
theorem E82.g_crossings_raised (c : E82 w K mg base) : mg "crossings_raised" = some (.ref (ga K "crossings_raised")) := He.glo_ok c.kin c.ns (c.says.t.d.fact 14)
/-- 0 cloth, 1 thing, 2 bar, 3 covered, 4 picks, 5 ends, 6 pick, 7 end, 8 crossing -/
abbrev n_do_cover : List Str := ["cloth", "thing", "bar", "covered", "picks", "ends", "pick", "end", "crossing"]
abbrev q_do_cover : Scope := defScope (top 41)
theorem s_do_cover : FnScope n_do_cover ["cloth", "thing"] q_do_cover := ⟨rfl, rfl, rfl, by decide +kernel, rfl, by decide +kernel, by decide +kernel⟩
theorem E82.f_do_cover (c : E82 w K mg base) : FunD K "do_cover" "do_cover" (defArgs (top 41)) (defBody (top 41)) q_do_cover [] [] (ga K "do_cover") (fdOf K ("do_cover", none)) := c.says.fun_ 15
theorem E82.b_do_cover (c : E82 w K mg base) : Binds K (fdOf K ("do_cover", none)) ["cloth", "thing"] [] := c.f_do_cover.bindsN fun _ _ _ _ _ _ us hl => match us, hl with | [_, _], _ => rfl
theorem E82.g_do_cover (c : E82 w K mg base) : mg "do_cover" = some (.ref (ga K "do_cover")) := He.glo_ok c.kin c.ns (c.says.t.d.fact 15)
/-- 0 loom, 1 presses, 2 found, 3 letter, 4 lift, 5 picks, 6 number, 7 press, 8 ends, 9 end, 10 shaft -/
abbrev n_bars_by : List Str := ["loom", "presses", "found", "letter", "lift", "picks", "number", "press", "ends", "end", "shaft"]
abbrev q_bars_by : Scope := defScope (top 42)
theorem s_bars_by : FnScope n_bars_by ["loom", "presses"] q_bars_by := ⟨rfl, rfl, rfl, by decide +kernel, rfl, by decide +kernel, by decide +kernel⟩
theorem E82.f_bars_by (c : E82 w K mg base) : FunD K "bars_by" "bars_by" (defArgs (top 42)) (defBody (top 42)) q_bars_by [] [] (ga K "bars_by") (fdOf K ("bars_by", none)) := c.says.fun_ 16
theorem E82.b_bars_by (c : E82 w K mg base) : Binds K (fdOf K ("bars_by", none)) ["loom", "presses"] [] := c.f_bars_by.bindsN fun _ _ _ _ _ _ us hl => match us, hl with | [_, _], _ => rfl
theorem E82.g_bars_by (c : E82 w K mg base) : mg "bars_by" = some (.ref (ga K "bars_by")) := He.glo_ok c.kin c.ns (c.says.t.d.fact 16)
/-- 0 _law_script, 1 _law_cells, 2 _law_mixed, 3 _law_cell -/
abbrev n__law_deck : List Str := ["_law_script", "_law_cells", "_law_mixed", "_law_cell"]
abbrev q__law_deck : Scope := defScope (top 44)
theorem s__law_deck : FnScope n__law_deck ["_law_script"] q__law_deck := ⟨rfl, rfl, rfl, by decide +kernel, rfl, by decide +kernel, by decide +kernel⟩
theorem E82.f__law_deck (c : E82 w K mg base) : FunD K "_law_deck" "_law_deck" (defArgs (top 44)) (defBody (top 44)) q__law_deck [] [] (ga K "_law_deck") (fdOf K ("_law_deck", none)) := c.says.fun_ 17
theorem E82.b__law_deck (c : E82 w K mg base) : Binds K (fdOf K ("_law_deck", none)) ["_law_script"] [] := c.f__law_deck.bindsN fun _ _ _ _ _ _ us hl => match us, hl with | [_], _ => rfl
theorem E82.g__law_deck (c : E82 w K mg base) : mg "_law_deck" = some (.ref (ga K "_law_deck")) := He.glo_ok c.kin c.ns (c.says.t.d.fact 17)
/-- 0 _law_deck_here, 1 _law_below, 2 _law_turn_now, 3 _law_figure, 4 _law_cell -/
abbrev n__law_draw : List Str := ["_law_deck_here", "_law_below", "_law_turn_now", "_law_figure", "_law_cell"]
abbrev q__law_draw : Scope := defScope (top 45)
theorem s__law_draw : FnScope n__law_draw ["_law_deck_here", "_law_below"] q__law_draw := ⟨rfl, rfl, rfl, by decide +kernel, rfl, by decide +kernel, by decide +kernel⟩
theorem E82.f__law_draw (c : E82 w K mg base) : FunD K "_law_draw" "_law_draw" (defArgs (top 45)) (defBody (top 45)) q__law_draw [] [] (ga K "_law_draw") (fdOf K ("_law_draw", none)) := c.says.fun_ 18
theorem E82.b__law_draw (c : E82 w K mg base) : Binds K (fdOf K ("_law_draw", none)) ["_law_deck_here", "_law_below"] [] := c.f__law_draw.bindsN fun _ _ _ _ _ _ us hl => match us, hl with | [_, _], _ => rfl
theorem E82.g__law_draw (c : E82 w K mg base) : mg "_law_draw" = some (.ref (ga K "_law_draw")) := He.glo_ok c.kin c.ns (c.says.t.d.fact 18)
/-- 0 _law_deck_here, 1 _law_some -/
abbrev n__law_pick : List Str := ["_law_deck_here", "_law_some"]
abbrev q__law_pick : Scope := defScope (top 46)
theorem s__law_pick : FnScope n__law_pick ["_law_deck_here", "_law_some"] q__law_pick := ⟨rfl, rfl, rfl, by decide +kernel, rfl, by decide +kernel, by decide +kernel⟩
theorem E82.f__law_pick (c : E82 w K mg base) : FunD K "_law_pick" "_law_pick" (defArgs (top 46)) (defBody (top 46)) q__law_pick [] [] (ga K "_law_pick") (fdOf K ("_law_pick", none)) := c.says.fun_ 19
theorem E82.b__law_pick (c : E82 w K mg base) : Binds K (fdOf K ("_law_pick", none)) ["_law_deck_here", "_law_some"] [] := c.f__law_pick.bindsN fun _ _ _ _ _ _ us hl => match us, hl with | [_, _], _ => rfl
theorem E82.g__law_pick (c : E82 w K mg base) : mg "_law_pick" = some (.ref (ga K "_law_pick")) := He.glo_ok c.kin c.ns (c.says.t.d.fact 19)
/-- 0 _law_deck_here, 1 _law_shafts_now, 2 _law_many, 3 _law_ends_now, 4 _law_k, 5 _law_lifts_now, 6 _law_lift, 7 _law_n -/
abbrev n__law_loom : List Str := ["_law_deck_here", "_law_shafts_now", "_law_many", "_law_ends_now", "_law_k", "_law_lifts_now", "_law_lift", "_law_n"]
abbrev q__law_loom : Scope := defScope (top 47)
theorem s__law_loom : FnScope n__law_loom ["_law_deck_here"] q__law_loom := ⟨rfl, rfl, rfl, by decide +kernel, rfl, by decide +kernel, by decide +kernel⟩
theorem E82.f__law_loom (c : E82 w K mg base) : FunD K "_law_loom" "_law_loom" (defArgs (top 47)) (defBody (top 47)) q__law_loom [] [] (ga K "_law_loom") (fdOf K ("_law_loom", none)) := c.says.fun_ 20
theorem E82.b__law_loom (c : E82 w K mg base) : Binds K (fdOf K ("_law_loom", none)) ["_law_deck_here"] [] := c.f__law_loom.bindsN fun _ _ _ _ _ _ us hl => match us, hl with | [_], _ => rfl
theorem E82.g__law_loom (c : E82 w K mg base) : mg "_law_loom" = some (.ref (ga K "_law_loom")) := He.glo_ok c.kin c.ns (c.says.t.d.fact 20)
/-- 0 _law_it, 1 _law_below -/
abbrev n__law_is_whole : List Str := ["_law_it", "_law_below"]
abbrev q__law_is_whole : Scope := defScope (top 48)
theorem s__law_is_whole : FnScope n__law_is_whole ["_law_it", "_law_below"] q__law_is_whole := ⟨rfl, rfl, rfl, by decide +kernel, rfl, by decide +kernel, by decide +kernel⟩
theorem E82.f__law_is_whole (c : E82 w K mg base) : FunD K "_law_is_whole" "_law_is_whole" (defArgs (top 48)) (defBody (top 48)) q__law_is_whole [] [] (ga K "_law_is_whole") (fdOf K ("_law_is_whole", none)) := c.says.fun_ 21
theorem E82.b__law_is_whole (c : E82 w K mg base) : Binds K (fdOf K ("_law_is_whole", none)) ["_law_it", "_law_below"] [] := c.f__law_is_whole.bindsN fun _ _ _ _ _ _ us hl => match us, hl with | [_, _], _ => rfl
theorem E82.g__law_is_whole (c : E82 w K mg base) : mg "_law_is_whole" = some (.ref (ga K "_law_is_whole")) := He.glo_ok c.kin c.ns (c.says.t.d.fact 21)
/-- 0 _law_deck_here, 1 _law_it, 2 _law_deep, 3 _law_at, 4 _law_way, 5 _law_some, 6 _law_odd -/
abbrev n__law_bent : List Str := ["_law_deck_here", "_law_it", "_law_deep", "_law_at", "_law_way", "_law_some", "_law_odd"]
abbrev q__law_bent : Scope := defScope (top 49)
theorem s__law_bent : FnScope n__law_bent ["_law_deck_here", "_law_it", "_law_deep"] q__law_bent := ⟨rfl, rfl, rfl, by decide +kernel, rfl, by decide +kernel, by decide +kernel⟩
theorem E82.f__law_bent (c : E82 w K mg base) : FunD K "_law_bent" "_law_bent" (defArgs (top 49)) (defBody (top 49)) q__law_bent [] [] (ga K "_law_bent") (fdOf K ("_law_bent", none)) := c.says.fun_ 22
theorem E82.b__law_bent (c : E82 w K mg base) : Binds K (fdOf K ("_law_bent", none)) ["_law_deck_here", "_law_it", "_law_deep"] [] := c.f__law_bent.bindsN fun _ _ _ _ _ _ us hl => match us, hl with | [_, _, _], _ => rfl
theorem E82.g__law_bent (c : E82 w K mg base) : mg "_law_bent" = some (.ref (ga K "_law_bent")) := He.glo_ok c.kin c.ns (c.says.t.d.fact 22)
/-- 0 _law_deck_here, 1 _law_w, 2 _law_signs, 3 _law_found, 4 _law_k, 5 _law_sign -/
abbrev n__law_presses : List Str := ["_law_deck_here", "_law_w", "_law_signs", "_law_found", "_law_k", "_law_sign"]
abbrev q__law_presses : Scope := defScope (top 50)
theorem s__law_presses : FnScope n__law_presses ["_law_deck_here", "_law_w"] q__law_presses := ⟨rfl, rfl, rfl, by decide +kernel, rfl, by decide +kernel, by decide +kernel⟩
theorem E82.f__law_presses (c : E82 w K mg base) : FunD K "_law_presses" "_law_presses" (defArgs (top 50)) (defBody (top 50)) q__law_presses [] [] (ga K "_law_presses") (fdOf K ("_law_presses", none)) := c.says.fun_ 23
theorem E82.b__law_presses (c : E82 w K mg base) : Binds K (fdOf K ("_law_presses", none)) ["_law_deck_here", "_law_w"] [] := c.f__law_presses.bindsN fun _ _ _ _ _ _ us hl => match us, hl with | [_, _], _ => rfl
theorem E82.g__law_presses (c : E82 w K mg base) : mg "_law_presses" = some (.ref (ga K "_law_presses")) := He.glo_ok c.kin c.ns (c.says.t.d.fact 23)
/-- 0 _law_w, 1 _law_it, 2 _law_sign -/
abbrev n__law_is_press : List Str := ["_law_w", "_law_it", "_law_sign"]
abbrev q__law_is_press : Scope := defScope (top 51)
theorem s__law_is_press : FnScope n__law_is_press ["_law_w", "_law_it"] q__law_is_press := ⟨rfl, rfl, rfl, by decide +kernel, rfl, by decide +kernel, by decide +kernel⟩
theorem E82.f__law_is_press (c : E82 w K mg base) : FunD K "_law_is_press" "_law_is_press" (defArgs (top 51)) (defBody (top 51)) q__law_is_press [] [] (ga K "_law_is_press") (fdOf K ("_law_is_press", none)) := c.says.fun_ 24
theorem E82.b__law_is_press (c : E82 w K mg base) : Binds K (fdOf K ("_law_is_press", none)) ["_law_w", "_law_it"] [] := c.f__law_is_press.bindsN fun _ _ _ _ _ _ us hl => match us, hl with | [_, _], _ => rfl
theorem E82.g__law_is_press (c : E82 w K mg base) : mg "_law_is_press" = some (.ref (ga K "_law_is_press")) := He.glo_ok c.kin c.ns (c.says.t.d.fact 24)
/-- 0 _law_w, 1 _law_it, 2 _law_bad, 3 _law_k, 4 _law_press -/
abbrev n__law_fault : List Str := ["_law_w", "_law_it", "_law_bad", "_law_k", "_law_press"]
abbrev q__law_fault : Scope := defScope (top 52)
theorem s__law_fault : FnScope n__law_fault ["_law_w", "_law_it"] q__law_fault := ⟨rfl, rfl, rfl, by decide +kernel, rfl, by decide +kernel, by decide +kernel⟩
theorem E82.f__law_fault (c : E82 w K mg base) : FunD K "_law_fault" "_law_fault" (defArgs (top 52)) (defBody (top 52)) q__law_fault [] [] (ga K "_law_fault") (fdOf K ("_law_fault", none)) := c.says.fun_ 25
theorem E82.b__law_fault (c : E82 w K mg base) : Binds K (fdOf K ("_law_fault", none)) ["_law_w", "_law_it"] [] := c.f__law_fault.bindsN fun _ _ _ _ _ _ us hl => match us, hl with | [_, _], _ => rfl
theorem E82.g__law_fault (c : E82 w K mg base) : mg "_law_fault" = some (.ref (ga K "_law_fault")) := He.glo_ok c.kin c.ns (c.says.t.d.fact 25)
/-- 0 _law_w, 1 _law_it, 2 _law_found, 3 _law_press, 4 _law_up_now, 5 _law_sign, 6 _law_shaft -/
abbrev n__law_woven : List Str := ["_law_w", "_law_it", "_law_found", "_law_press", "_law_up_now", "_law_sign", "_law_shaft"]
abbrev q__law_woven : Scope := defScope (top 53)
theorem s__law_woven : FnScope n__law_woven ["_law_w", "_law_it"] q__law_woven := ⟨rfl, rfl, rfl, by decide +kernel, rfl, by decide +kernel, by decide +kernel⟩
theorem E82.f__law_woven (c : E82 w K mg base) : FunD K "_law_woven" "_law_woven" (defArgs (top 53)) (defBody (top 53)) q__law_woven [] [] (ga K "_law_woven") (fdOf K ("_law_woven", none)) := c.says.fun_ 26
theorem E82.b__law_woven (c : E82 w K mg base) : Binds K (fdOf K ("_law_woven", none)) ["_law_w", "_law_it"] [] := c.f__law_woven.bindsN fun _ _ _ _ _ _ us hl => match us, hl with | [_, _], _ => rfl
theorem E82.g__law_woven (c : E82 w K mg base) : mg "_law_woven" = some (.ref (ga K "_law_woven")) := He.glo_ok c.kin c.ns (c.says.t.d.fact 26)
/-- 0 _law_w, 1 _law_it, 2 _law_by_name, 3 _law_found, 4 _law_code, 5 e -/
abbrev n__law_told : List Str := ["_law_w", "_law_it", "_law_by_name", "_law_found", "_law_code", "e"]
abbrev q__law_told : Scope := defScope (top 54)
theorem s__law_told : FnScope n__law_told ["_law_w", "_law_it", "_law_by_name"] q__law_told := ⟨rfl, rfl, rfl, by decide +kernel, rfl, by decide +kernel, by decide +kernel⟩
theorem E82.f__law_told (c : E82 w K mg base) : FunD K "_law_told" "_law_told" (defArgs (top 54)) (defBody (top 54)) q__law_told [] [] (ga K "_law_told") (fdOf K ("_law_told", none)) := c.says.fun_ 27
theorem E82.b__law_told (c : E82 w K mg base) : Binds K (fdOf K ("_law_told", none)) ["_law_w", "_law_it", "_law_by_name"] [] := c.f__law_told.bindsN fun _ _ _ _ _ _ us hl => match us, hl with | [_, _, _], _ => rfl
theorem E82.g__law_told (c : E82 w K mg base) : mg "_law_told" = some (.ref (ga K "_law_told")) := He.glo_ok c.kin c.ns (c.says.t.d.fact 27)
/-- 0 _law_w, 1 _law_code, 2 _law_it, 3 _law_by_name, 4 _law_was, 5 _law_fault_here, 6 _law_due, 7 _law_told_here -/
abbrev n__law_value_right : List Str := ["_law_w", "_law_code", "_law_it", "_law_by_name", "_law_was", "_law_fault_here", "_law_due", "_law_told_here"]
abbrev q__law_value_right : Scope := defScope (top 55)
theorem s__law_value_right : FnScope n__law_value_right ["_law_w", "_law_code", "_law_it", "_law_by_name"] q__law_value_right := ⟨rfl, rfl, rfl, by decide +kernel, rfl, by decide +kernel, by decide +kernel⟩
theorem E82.f__law_value_right (c : E82 w K mg base) : FunD K "_law_value_right" "_law_value_right" (defArgs (top 55)) (defBody (top 55)) q__law_value_right [] [] (ga K "_law_value_right") (fdOf K ("_law_value_right", none)) := c.says.fun_ 28
theorem E82.b__law_value_right (c : E82 w K mg base) : Binds K (fdOf K ("_law_value_right", none)) ["_law_w", "_law_code", "_law_it", "_law_by_name"] [] := c.f__law_value_right.bindsN fun _ _ _ _ _ _ us hl => match us, hl with | [_, _, _, _], _ => rfl
theorem E82.g__law_value_right (c : E82 w K mg base) : mg "_law_value_right" = some (.ref (ga K "_law_value_right")) := He.glo_ok c.kin c.ns (c.says.t.d.fact 28)
/-- 0 _law_w, 1 _law_it, 2 _law_found, 3 _law_signs, 4 _law_n, 5 _law_lift, 6 _law_picks_now, 7 _law_k, 8 _law_press, 9 _law_ends_now, 10 _law_j, 11 _law_shaft -/
abbrev n__law_bars : List Str := ["_law_w", "_law_it", "_law_found", "_law_signs", "_law_n", "_law_lift", "_law_picks_now", "_law_k", "_law_press", "_law_ends_now", "_law_j", "_law_shaft"]
abbrev q__law_bars : Scope := defScope (top 56)
theorem s__law_bars : FnScope n__law_bars ["_law_w", "_law_it"] q__law_bars := ⟨rfl, rfl, rfl, by decide +kernel, rfl, by decide +kernel, by decide +kernel⟩
theorem E82.f__law_bars (c : E82 w K mg base) : FunD K "_law_bars" "_law_bars" (defArgs (top 56)) (defBody (top 56)) q__law_bars [] [] (ga K "_law_bars") (fdOf K ("_law_bars", none)) := c.says.fun_ 29
theorem E82.b__law_bars (c : E82 w K mg base) : Binds K (fdOf K ("_law_bars", none)) ["_law_w", "_law_it"] [] := c.f__law_bars.bindsN fun _ _ _ _ _ _ us hl => match us, hl with | [_, _], _ => rfl
theorem E82.g__law_bars (c : E82 w K mg base) : mg "_law_bars" = some (.ref (ga K "_law_bars")) := He.glo_ok c.kin c.ns (c.says.t.d.fact 29)
/-- 0 _law_it, 1 _law_below, 2 _law_n -/
abbrev n__law_is_part : List Str := ["_law_it", "_law_below", "_law_n"]
abbrev q__law_is_part : Scope := defScope (top 57)
theorem s__law_is_part : FnScope n__law_is_part ["_law_it", "_law_below"] q__law_is_part := ⟨rfl, rfl, rfl, by decide +kernel, rfl, by decide +kernel, by decide +kernel⟩
theorem E82.f__law_is_part (c : E82 w K mg base) : FunD K "_law_is_part" "_law_is_part" (defArgs (top 57)) (defBody (top 57)) q__law_is_part [] [] (ga K "_law_is_part") (fdOf K ("_law_is_part", none)) := c.says.fun_ 30
theorem E82.b__law_is_part (c : E82 w K mg base) : Binds K (fdOf K ("_law_is_part", none)) ["_law_it", "_law_below"] [] := c.f__law_is_part.bindsN fun _ _ _ _ _ _ us hl => match us, hl with | [_, _], _ => rfl
theorem E82.g__law_is_part (c : E82 w K mg base) : mg "_law_is_part" = some (.ref (ga K "_law_is_part")) := He.glo_ok c.kin c.ns (c.says.t.d.fact 30)
/-- 0 _law_cloth_now, 1 _law_it, 2 _law_k, 3 _law_j -/
abbrev n__law_is_bar : List Str := ["_law_cloth_now", "_law_it", "_law_k", "_law_j"]
abbrev q__law_is_bar : Scope := defScope (top 58)
theorem s__law_is_bar : FnScope n__law_is_bar ["_law_cloth_now", "_law_it"] q__law_is_bar := ⟨rfl, rfl, rfl, by decide +kernel, rfl, by decide +kernel, by decide +kernel⟩
theorem E82.f__law_is_bar (c : E82 w K mg base) : FunD K "_law_is_bar" "_law_is_bar" (defArgs (top 58)) (defBody (top 58)) q__law_is_bar [] [] (ga K "_law_is_bar") (fdOf K ("_law_is_bar", none)) := c.says.fun_ 31
theorem E82.b__law_is_bar (c : E82 w K mg base) : Binds K (fdOf K ("_law_is_bar", none)) ["_law_cloth_now", "_law_it"] [] := c.f__law_is_bar.bindsN fun _ _ _ _ _ _ us hl => match us, hl with | [_, _], _ => rfl
theorem E82.g__law_is_bar (c : E82 w K mg base) : mg "_law_is_bar" = some (.ref (ga K "_law_is_bar")) := He.glo_ok c.kin c.ns (c.says.t.d.fact 31)
/-- 0 _law_cloth_now, 1 _law_it, 2 _law_bar, 3 _law_met, 4 _law_picks_now, 5 _law_ends_now, 6 _law_k, 7 _law_j, 8 _law_sign -/
abbrev n__law_is_cover : List Str := ["_law_cloth_now", "_law_it", "_law_bar", "_law_met", "_law_picks_now", "_law_ends_now", "_law_k", "_law_j", "_law_sign"]
abbrev q__law_is_cover : Scope := defScope (top 59)
theorem s__law_is_cover : FnScope n__law_is_cover ["_law_cloth_now", "_law_it"] q__law_is_cover := ⟨rfl, rfl, rfl, by decide +kernel, rfl, by decide +kernel, by decide +kernel⟩
theorem E82.f__law_is_cover (c : E82 w K mg base) : FunD K "_law_is_cover" "_law_is_cover" (defArgs (top 59)) (defBody (top 59)) q__law_is_cover [] [] (ga K "_law_is_cover") (fdOf K ("_law_is_cover", none)) := c.says.fun_ 32
theorem E82.b__law_is_cover (c : E82 w K mg base) : Binds K (fdOf K ("_law_is_cover", none)) ["_law_cloth_now", "_law_it"] [] := c.f__law_is_cover.bindsN fun _ _ _ _ _ _ us hl => match us, hl with | [_, _], _ => rfl
theorem E82.g__law_is_cover (c : E82 w K mg base) : mg "_law_is_cover" = some (.ref (ga K "_law_is_cover")) := He.glo_ok c.kin c.ns (c.says.t.d.fact 32)
/-- 0 _law_deck_here, 1 _law_cloth_now, 2 _law_own, 3 _law_code, 4 _law_rows_now, 5 _law_k, 6 _law_row, 7 _law_up_now, 8 _law_j, 9 _law_sign, 10 _law_plain, 11 _law_bar, 12 _law_some, 13 _law_go, 14 _law_it, 15 _law_was, 16 _law_told_here, 17 _law_bars_now -/
abbrev n__law_cover_right : List Str := ["_law_deck_here", "_law_cloth_now", "_law_own", "_law_code", "_law_rows_now", "_law_k", "_law_row", "_law_up_now", "_law_j", "_law_sign", "_law_plain", "_law_bar", "_law_some", "_law_go", "_law_it", "_law_was", "_law_told_here", "_law_bars_now"]
abbrev q__law_cover_right : Scope := defScope (top 60)
theorem s__law_cover_right : FnScope n__law_cover_right ["_law_deck_here", "_law_cloth_now", "_law_own"] q__law_cover_right := ⟨rfl, rfl, rfl, by decide +kernel, rfl, by decide +kernel, by decide +kernel⟩
theorem E82.f__law_cover_right (c : E82 w K mg base) : FunD K "_law_cover_right" "_law_cover_right" (defArgs (top 60)) (defBody (top 60)) q__law_cover_right [] [] (ga K "_law_cover_right") (fdOf K ("_law_cover_right", none)) := c.says.fun_ 33
theorem E82.b__law_cover_right (c : E82 w K mg base) : Binds K (fdOf K ("_law_cover_right", none)) ["_law_deck_here", "_law_cloth_now", "_law_own"] [] := c.f__law_cover_right.bindsN fun _ _ _ _ _ _ us hl => match us, hl with | [_, _, _], _ => rfl
theorem E82.g__law_cover_right (c : E82 w K mg base) : mg "_law_cover_right" = some (.ref (ga K "_law_cover_right")) := He.glo_ok c.kin c.ns (c.says.t.d.fact 33)
/-- 0 _law_deck_here, 1 _law_w, 2 _law_it, 3 _law_code, 4 _law_own, 5 _law_rows_now -/
abbrev n__law_long_right : List Str := ["_law_deck_here", "_law_w", "_law_it", "_law_code", "_law_own", "_law_rows_now"]
abbrev q__law_long_right : Scope := defScope (top 61)
theorem s__law_long_right : FnScope n__law_long_right ["_law_deck_here"] q__law_long_right := ⟨rfl, rfl, rfl, by decide +kernel, rfl, by decide +kernel, by decide +kernel⟩
theorem E82.f__law_long_right (c : E82 w K mg base) : FunD K "_law_long_right" "_law_long_right" (defArgs (top 61)) (defBody (top 61)) q__law_long_right [] [] (ga K "_law_long_right") (fdOf K ("_law_long_right", none)) := c.says.fun_ 34
theorem E82.b__law_long_right (c : E82 w K mg base) : Binds K (fdOf K ("_law_long_right", none)) ["_law_deck_here"] [] := c.f__law_long_right.bindsN fun _ _ _ _ _ _ us hl => match us, hl with | [_], _ => rfl
theorem E82.g__law_long_right (c : E82 w K mg base) : mg "_law_long_right" = some (.ref (ga K "_law_long_right")) := He.glo_ok c.kin c.ns (c.says.t.d.fact 34)
/-- 0 _law_script, 1 _law_deck_here, 2 _law_go, 3 _law_w, 4 _law_code, 5 _law_it, 6 _law_cloth_now, 7 _law_own, 8 _law_plain, 9 _law_press, 10 _law_odd, 11 _law_turn, 12 _law_some, 13 _law_bad -/
abbrev n_law : List Str := ["_law_script", "_law_deck_here", "_law_go", "_law_w", "_law_code", "_law_it", "_law_cloth_now", "_law_own", "_law_plain", "_law_press", "_law_odd", "_law_turn", "_law_some", "_law_bad"]
abbrev q_law : Scope := defScope (top 62)
theorem s_law : FnScope n_law ["_law_script"] q_law := ⟨rfl, rfl, rfl, by decide +kernel, rfl, by decide +kernel, by decide +kernel⟩
theorem E82.f_law (c : E82 w K mg base) : FunD K "law" "law" (defArgs (top 62)) (defBody (top 62)) q_law [] [] (ga K "law") (fdOf K ("law", none)) := c.says.fun_ 35
theorem E82.b_law (c : E82 w K mg base) : Binds K (fdOf K ("law", none)) ["_law_script"] [] := c.f_law.bindsN fun _ _ _ _ _ _ us hl => match us, hl with | [_], _ => rfl
theorem E82.g_law (c : E82 w K mg base) : mg "law" = some (.ref (ga K "law")) := He.glo_ok c.kin c.ns (c.says.t.d.fact 35)
/-- 0 self, 1 shafts, 2 threading, 3 lifts, 4 shaft, 5 number, 6 lift -/
abbrev n_Loom_init : List Str := ["self", "shafts", "threading", "lifts", "shaft", "number", "lift"]
abbrev q_Loom_init : Scope := defScope (me 19 0)
theorem s_Loom_init : FnScope n_Loom_init ["self", "shafts", "threading", "lifts"] q_Loom_init := ⟨rfl, rfl, rfl, by decide +kernel, rfl, by decide +kernel, by decide +kernel⟩
theorem E82.f_Loom_init (c : E82 w K mg base) : FunD K "__init__" "Loom.__init__" (defArgs (me 19 0)) (defBody (me 19 0)) q_Loom_init [] [] (ma K (ga K "Loom") "__init__") (fdOf K ("Loom", some "__init__")) := c.says.fun_ 36
theorem E82.b_Loom_init (c : E82 w K mg base) : Binds K (fdOf K ("Loom", some "__init__")) ["self", "shafts", "threading", "lifts"] [] := c.f_Loom_init.bindsN fun _ _ _ _ _ _ us hl => match us, hl with | [_, _, _, _], _ => rfl
/-- 0 self, 1 letter -/
abbrev n_Loom_lift_of : List Str := ["self", "letter"]
abbrev q_Loom_lift_of : Scope := defScope (me 19 5)
theorem s_Loom_lift_of : FnScope n_Loom_lift_of ["self", "letter"] q_Loom_lift_of := ⟨rfl, rfl, rfl, by decide +kernel, rfl, by decide +kernel, by decide +kernel⟩
theorem E82.f_Loom_lift_of (c : E82 w K mg base) : FunD K "lift_of" "Loom.lift_of" (defArgs (me 19 5)) (defBody (me 19 5)) q_Loom_lift_of [] [] (ma K (ga K "Loom") "lift_of") (fdOf K ("Loom", some "lift_of")) := c.says.fun_ 37
theorem E82.b_Loom_lift_of (c : E82 w K mg base) : Binds K (fdOf K ("Loom", some "lift_of")) ["self", "letter"] [] := c.f_Loom_lift_of.bindsN fun _ _ _ _ _ _ us hl => match us, hl with | [_, _], _ => rfl
/-- 0 self, 1 picks, 2 number, 3 pick -/
abbrev n_Cloth_init : List Str := ["self", "picks", "number", "pick"]
abbrev q_Cloth_init : Scope := defScope (me 26 0)
theorem s_Cloth_init : FnScope n_Cloth_init ["self", "picks"] q_Cloth_init := ⟨rfl, rfl, rfl, by decide +kernel, rfl, by decide +kernel, by decide +kernel⟩
theorem E82.f_Cloth_init (c : E82 w K mg base) : FunD K "__init__" "Cloth.__init__" (defArgs (me 26 0)) (defBody (me 26 0)) q_Cloth_init [] [] (ma K (ga K "Cloth") "__init__") (fdOf K ("Cloth", some "__init__")) := c.says.fun_ 38
theorem E82.b_Cloth_init (c : E82 w K mg base) : Binds K (fdOf K ("Cloth", some "__init__")) ["self", "picks"] [] := c.f_Cloth_init.bindsN fun _ _ _ _ _ _ us hl => match us, hl with | [_, _], _ => rfl
/-- 0 self -/
abbrev n_Cloth_len : List Str := ["self"]
abbrev q_Cloth_len : Scope := defScope (me 26 3)
theorem s_Cloth_len : FnScope n_Cloth_len ["self"] q_Cloth_len := ⟨rfl, rfl, rfl, by decide +kernel, rfl, by decide +kernel, by decide +kernel⟩
theorem E82.f_Cloth_len (c : E82 w K mg base) : FunD K "__len__" "Cloth.__len__" (defArgs (me 26 3)) (defBody (me 26 3)) q_Cloth_len [] [] (ma K (ga K "Cloth") "__len__") (fdOf K ("Cloth", some "__len__")) := c.says.fun_ 39
theorem E82.b_Cloth_len (c : E82 w K mg base) : Binds K (fdOf K ("Cloth", some "__len__")) ["self"] [] := c.f_Cloth_len.bindsN fun _ _ _ _ _ _ us hl => match us, hl with | [_], _ => rfl
/-- 0 self, 1 other -/
abbrev n_Cloth_eq : List Str := ["self", "other"]
abbrev q_Cloth_eq : Scope := defScope (me 26 4)
theorem s_Cloth_eq : FnScope n_Cloth_eq ["self", "other"] q_Cloth_eq := ⟨rfl, rfl, rfl, by decide +kernel, rfl, by decide +kernel, by decide +kernel⟩
theorem E82.f_Cloth_eq (c : E82 w K mg base) : FunD K "__eq__" "Cloth.__eq__" (defArgs (me 26 4)) (defBody (me 26 4)) q_Cloth_eq [] [] (ma K (ga K "Cloth") "__eq__") (fdOf K ("Cloth", some "__eq__")) := c.says.fun_ 40
theorem E82.b_Cloth_eq (c : E82 w K mg base) : Binds K (fdOf K ("Cloth", some "__eq__")) ["self", "other"] [] := c.f_Cloth_eq.bindsN fun _ _ _ _ _ _ us hl => match us, hl with | [_, _], _ => rfl
theorem E82.g_Loom (c : E82 w K mg base) : mg "Loom" = some (.ref (ga K "Loom")) := He.glo_ok c.kin c.ns (c.says.t.d.fact 36)
theorem E82.g_Cloth (c : E82 w K mg base) : mg "Cloth" = some (.ref (ga K "Cloth")) := He.glo_ok c.kin c.ns (c.says.t.d.fact 37)
theorem E82.g_BadPress (c : E82 w K mg base) : mg "BadPress" = some (.ref (ga K "BadPress")) := He.glo_ok c.kin c.ns (c.says.t.d.fact 38)
theorem E82.g_LoomError (c : E82 w K mg base) : mg "LoomError" = some (.ref (ga K "LoomError")) := He.glo_ok c.kin c.ns (c.says.t.d.fact 39)
theorem E82.g_OTHER (c : E82 w K mg base) : mg "OTHER" = some (.ref (ga K "OTHER")) := He.glo_ok c.kin c.ns (c.says.t.d.fact 40)
theorem E82.n_all (c : E82 w K mg base) : mg "all" = none := He.free_ok c.kin c.ns (c.says.t.d.fact 41)
theorem E82.n_bool (c : E82 w K mg base) : mg "bool" = none := He.free_ok c.kin c.ns (c.says.t.d.fact 42)
theorem E82.n_dict (c : E82 w K mg base) : mg "dict" = none := He.free_ok c.kin c.ns (c.says.t.d.fact 43)
theorem E82.n_enumerate (c : E82 w K mg base) : mg "enumerate" = none := He.free_ok c.kin c.ns (c.says.t.d.fact 44)
theorem E82.n_int (c : E82 w K mg base) : mg "int" = none := He.free_ok c.kin c.ns (c.says.t.d.fact 45)
theorem E82.n_isinstance (c : E82 w K mg base) : mg "isinstance" = none := He.free_ok c.kin c.ns (c.says.t.d.fact 46)
theorem E82.n_len (c : E82 w K mg base) : mg "len" = none := He.free_ok c.kin c.ns (c.says.t.d.fact 47)
theorem E82.n_list (c : E82 w K mg base) : mg "list" = none := He.free_ok c.kin c.ns (c.says.t.d.fact 48)
theorem E82.n_range (c : E82 w K mg base) : mg "range" = none := He.free_ok c.kin c.ns (c.says.t.d.fact 49)
theorem E82.n_repr (c : E82 w K mg base) : mg "repr" = none := He.free_ok c.kin c.ns (c.says.t.d.fact 50)
theorem E82.n_set (c : E82 w K mg base) : mg "set" = none := He.free_ok c.kin c.ns (c.says.t.d.fact 51)
theorem E82.n_sorted (c : E82 w K mg base) : mg "sorted" = none := He.free_ok c.kin c.ns (c.says.t.d.fact 52)
theorem E82.n_str (c : E82 w K mg base) : mg "str" = none := He.free_ok c.kin c.ns (c.says.t.d.fact 53)
theorem E82.n_sum (c : E82 w K mg base) : mg "sum" = none := He.free_ok c.kin c.ns (c.says.t.d.fact 54)
theorem E82.n_super (c : E82 w K mg base) : mg "super" = none := He.free_ok c.kin c.ns (c.says.t.d.fact 55)
theorem E82.n_tuple (c : E82 w K mg base) : mg "tuple" = none := He.free_ok c.kin c.ns (c.says.t.d.fact 56)
theorem E82.n_zip (c : E82 w K mg base) : mg "zip" = none := He.free_ok c.kin c.ns (c.says.t.d.fact 57)
theorem E82.v_TREADLES (c : E82 w K mg base) : ∃ t, mg "TREADLES" = some (.str "abcdefghijklmnopqrstuvwxyz" t) := He.str_ok c.kin c.ns (c.says.t.d.fact 58)
theorem E82.v_DIGITS (c : E82 w K mg base) : ∃ t, mg "DIGITS" = some (.str "0123456789" t) := He.str_ok c.kin c.ns (c.says.t.d.fact 59)
theorem E82.v_ABOVE (c : E82 w K mg base) : ∃ t, mg "ABOVE" = some (.str "x" t) := He.str_ok c.kin c.ns (c.says.t.d.fact 60)
theorem E82.v_BELOW (c : E82 w K mg base) : ∃ t, mg "BELOW" = some (.str "-" t) := He.str_ok c.kin c.ns (c.says.t.d.fact 61)
theorem E82.v_RAISED (c : E82 w K mg base) : ∃ t, mg "RAISED" = some (.str "x" t) := He.str_ok c.kin c.ns (c.says.t.d.fact 62)
theorem E82.v_LOWERED (c : E82 w K mg base) : ∃ t, mg "LOWERED" = some (.str "-" t) := He.str_ok c.kin c.ns (c.says.t.d.fact 63)
theorem E82.v_MOST_SHAFTS (c : E82 w K mg base) : ∃ t, mg "MOST_SHAFTS" = some (.int 99 t) := He.int_ok c.kin c.ns (c.says.t.d.fact 64)
theorem E82.v_PAIR (c : E82 w K mg base) : ∃ t, mg "PAIR" = some (.int 2 t) := He.int_ok c.kin c.ns (c.says.t.d.fact 65)
theorem E82.v_NO_TUPLE (c : E82 w K mg base) : ∃ t, mg "NO_TUPLE" = some (.int (-1) t) := He.int_ok c.kin c.ns (c.says.t.d.fact 66)
theorem E82.cls_Loom (c : E82 w K mg base) : Cls K (ga K "Loom") := He.cls_ok (c.says.t.d.fact 67)
theorem E82.mk_Loom (c : E82 w K mg base) : Mk K (ga K "Loom") (ma K (ga K "Loom") "__init__") := He.mkr_ok (c.says.t.d.fact 69)
theorem E82.cls_Cloth (c : E82 w K mg base) : Cls K (ga K "Cloth") := He.cls_ok (c.says.t.d.fact 68)
theorem E82.mk_Cloth (c : E82 w K mg base) : Mk K (ga K "Cloth") (ma K (ga K "Cloth") "__init__") := He.mkr_ok (c.says.t.d.fact 70)
theorem E82.meth_Loom_lift_of (c : E82 w K mg base) : Meth K (ga K "Loom") "lift_of" (ma K (ga K "Loom") "lift_of") := He.meth_ok (c.says.t.d.fact 71)
theorem E82.no_Loom_shafts (c : E82 w K mg base) : NoAttr K (ga K "Loom") "shafts" := He.noat_ok (c.says.t.d.fact 72)
theorem E82.no_Loom_threading (c : E82 w K mg base) : NoAttr K (ga K "Loom") "threading" := He.noat_ok (c.says.t.d.fact 73)
theorem E82.no_Loom_lifts (c : E82 w K mg base) : NoAttr K (ga K "Loom") "lifts" := He.noat_ok (c.says.t.d.fact 74)
theorem E82.no_Loom_letters (c : E82 w K mg base) : NoAttr K (ga K "Loom") "letters" := He.noat_ok (c.says.t.d.fact 75)
theorem E82.no_Loom_used (c : E82 w K mg base) : NoAttr K (ga K "Loom") "used" := He.noat_ok (c.says.t.d.fact 76)
theorem E82.no_Cloth_picks (c : E82 w K mg base) : NoAttr K (ga K "Cloth") "picks" := He.noat_ok (c.says.t.d.fact 77)
theorem E82.no_Cloth_ends (c : E82 w K mg base) : NoAttr K (ga K "Cloth") "ends" := He.noat_ok (c.says.t.d.fact 78)
theorem E82.exm_BadPress (c : E82 w K mg base) : PySem.W.exmOne K (.ref (ga K "BadPress")) (.ref (ga K "BadPress")) = some true := He.exm_ok (c.says.t.d.fact 79)
theorem E82.noLst (c : E82 w K mg base) : TL.noLst K = true := c.says.b 0
theorem E82.sys (c : E82 w K mg base) : ∃ o, base.get? sysModules = some o := by
  have h : sysB K = true := c.says.b 1
  obtain ⟨o, ho⟩ := Option.isSome_iff_exists.mp (show (K.lookup sysModules).isSome = true from h)
  exact ⟨o, c.kin _ _ ho⟩
theorem E82.is_Loom (c : E82 w K mg base) : IsC K (ga K "Loom") := by
  have h : isB "Loom" K = true := c.says.b 3
  obtain ⟨h1, h⟩ := an h
  obtain ⟨h2, h⟩ := an h
  obtain ⟨h3, h4⟩ := an h
  exact ⟨c.cls_Loom, optB_ok h1, optB_ok h2, optB_ok h3, optB_ok h4⟩
theorem E82.is_Cloth (c : E82 w K mg base) : IsC K (ga K "Cloth") := by
  have h : isB "Cloth" K = true := c.says.b 4
  obtain ⟨h1, h⟩ := an h
  obtain ⟨h2, h⟩ := an h
  obtain ⟨h3, h4⟩ := an h
  exact ⟨c.cls_Cloth, optB_ok h1, optB_ok h2, optB_ok h3, optB_ok h4⟩
theorem E82.kit_Loom (c : E82 w K mg base) : PySem.W.kitOne K (.ref (ga K "Loom")) (.ref (ga K "Loom")) = some true := optB_ok (show kitB2 "Loom" "Loom" K = true from c.says.b 5)
theorem E82.kit_Cloth (c : E82 w K mg base) : PySem.W.kitOne K (.ref (ga K "Cloth")) (.ref (ga K "Cloth")) = some true := optB_ok (show kitB2 "Cloth" "Cloth" K = true from c.says.b 6)
theorem E82.kit_BadPress (c : E82 w K mg base) : PySem.W.kitOne K (.ref (ga K "BadPress")) (.ref (ga K "LoomError")) = some true := optB_ok (show kitB2 "BadPress" "LoomError" K = true from c.says.b 7)
theorem E82.sp_Cloth_len (c : E82 w K mg base) : PySem.W.findIn K (.ref (ga K "Cloth")) "__len__" = some (some (.ref (ma K (ga K "Cloth") "__len__"))) ∧ PySem.W.isFn K (.ref (ma K (ga K "Cloth") "__len__")) = true := by
  obtain ⟨h1, h2⟩ := an (show specB "Cloth" "__len__" K = true from c.says.b 8)
  exact ⟨optB_ok h1, h2⟩
theorem E82.sp_Cloth_eq (c : E82 w K mg base) : PySem.W.findIn K (.ref (ga K "Cloth")) "__eq__" = some (some (.ref (ma K (ga K "Cloth") "__eq__"))) ∧ PySem.W.isFn K (.ref (ma K (ga K "Cloth") "__eq__")) = true := by
  obtain ⟨h1, h2⟩ := an (show specB "Cloth" "__eq__" K = true from c.says.b 9)
  exact ⟨optB_ok h1, h2⟩
theorem E82.ne_Cloth (c : E82 w K mg base) : NeC K (ga K "Cloth") (ma K (ga K "Cloth") "__eq__") := by
  have h : neB "Cloth" K = true := c.says.b 10
  exact ⟨c.sp_Cloth_eq.1, c.sp_Cloth_eq.2, optB_ok h, c.is_Cloth.hm⟩
theorem E82.exc_BadPress (c : E82 w K mg base) : L2.ExcC K (ga K "BadPress") ∧ L2.XfC K (ga K "BadPress") := by
  have h : excCB "BadPress" K = true := c.says.b 11
  obtain ⟨h0, h⟩ := an h
  have x := L2.xfB_ok h0
  obtain ⟨h1, h⟩ := an h
  obtain ⟨h2, h⟩ := an h
  obtain ⟨h3, h4⟩ := an h
  exact ⟨⟨x.ga, x.gg, x.exC, x.hdC, optB_ok h1, optB_ok h2, optB_ok h3, optB_ok h4⟩, x⟩
theorem E82.nox_BadPress (c : E82 w K mg base) : PySem.W.findIn K (.ref (ga K "BadPress")) "number" = some none := optB_ok (show noxB "BadPress" "number" K = true from c.says.b 12)
theorem E82.bad_BadPress (c : E82 w K mg base) : ∃ fd, BadI PySem.Challenge.pw_loomhold_k82_presses_and_bars_of_any_val K (ga K "BadPress") (ma K (ga K "BadPress") "__init__") "number" fd ∧ Binds K fd ["self", "number"] [] := by
  obtain ⟨fd, B, kV, doc, pm, cda, cc, ct, an, e⟩ := bad_ok (P := PySem.Challenge.pw_loomhold_k82_presses_and_bars_of_any_val) (d := dBad_BadPress) (c.says.bad 0) (c.says.b 2) rfl rfl rfl rfl rfl
  exact ⟨fd, B, .all fun us hl => by subst e; exact match us, hl with | [_, _], _ => rfl⟩
theorem E82.dict_OTHER (c : E82 w K mg base) : ∃ es n, KDict K w (ga K "OTHER") es n := c.says.t.tab 0
theorem E82.in_OTHER_0 (c : E82 w K mg base) : ∃ u, PySem.W.nsIn K (ga K "OTHER") "x" = some (some u) := by
  have h : inB "OTHER" "x" K = true := c.says.b 13
  unfold inB at h
  split at h
  · rename_i u hu; exact ⟨u, hu⟩
  · cases h
theorem E82.in_OTHER_1 (c : E82 w K mg base) : ∃ u, PySem.W.nsIn K (ga K "OTHER") "-" = some (some u) := by
  have h : inB "OTHER" "-" K = true := c.says.b 14
  unfold inB at h
  split at h
  · rename_i u hu; exact ⟨u, hu⟩
  · cases h
end
end K82
end
section
set_option maxRecDepth 100000
set_option maxHeartbeats 2000000
/-! TV: comprehensions that write nothing. -/
namespace TL
open PySem PySem.Spec PyProof.Rows L2
section
variable {X : Cx} {scope : Scope} {elt c : Expr} {M : Mp} {Q : DQ} {bind : D → Option En}
theorem CompT.map {xs acc : List D} (f : D → D) (h : ∀ x ∈ xs, ∃ ρ1, bind x = some ρ1 ∧ ∀ s H C cl fp, WE (Blk X scope s H C cl fp) elt ρ1 M fun y' M' => y' = f x ∧ M' = M) (hl : acc.length + xs.length ≤ sizeLine) (q : Q (.lst (acc ++ xs.map f)) M) :
    CompT X scope elt [] bind Q xs acc M := by
  induction xs generalizing acc with
  | nil => simpa [CompT] using q
  | cons x xs ih =>
    obtain ⟨ρ1, e, w⟩ := h x (List.mem_cons_self ..)
    refine ⟨by simp at hl; omega, ρ1, e, fun b' M' => b' = true ∧ M' = M, fun s H C cl fp => .nil ⟨rfl, rfl⟩, fun _ z => (nomatch z.1), fun M1 z => ?_⟩
    obtain ⟨_, rfl⟩ := z
    refine ⟨_, w, fun y M2 hy => ?_⟩
    obtain ⟨rfl, rfl⟩ := hy
    exact ih (fun y hy => h y (List.mem_cons_of_mem _ hy)) (by simp at hl ⊢; omega) (by simpa using q)
theorem CompT.filter {xs acc : List D} (p : D → Bool) (f : D → D) (h : ∀ x ∈ xs, ∃ ρ1, bind x = some ρ1 ∧ (∀ s H C cl fp, WT (Blk X scope s H C cl fp) c ρ1 M fun b M' => b = p x ∧ M' = M) ∧ (p x = true → ∀ s H C cl fp, WE (Blk X scope s H C cl fp) elt ρ1 M fun y' M' => y' = f x ∧ M' = M))
    (hl : acc.length + xs.length ≤ sizeLine) (q : Q (.lst (acc ++ (xs.filter p).map f)) M) : CompT X scope elt [c] bind Q xs acc M := by
  induction xs generalizing acc with
  | nil => simpa [CompT] using q
  | cons x xs ih =>
    obtain ⟨ρ1, e, t, w⟩ := h x (List.mem_cons_self ..)
    have h' := fun y hy => h y (List.mem_cons_of_mem x hy)
    refine ⟨by simp at hl; omega, ρ1, e, fun b' M' => b' = p x ∧ M' = M, fun s H C cl fp => .one (t s H C cl fp), fun M1 z => ?_, fun M1 z => ?_⟩
    · obtain ⟨z, rfl⟩ := z
      exact ih h' (by simp at hl ⊢; omega) (by rw [List.filter_cons, ← z] at q; simpa using q)
    · obtain ⟨z, rfl⟩ := z
      refine ⟨_, w z.symm, fun y M2 hy => ?_⟩
      obtain ⟨rfl, rfl⟩ := hy
      exact ih h' (by simp at hl ⊢; omega) (by rw [List.filter_cons, ← z] at q; simpa using q)
/-- {k: v for ..} that writes nothing -/
theorem DCompT.map {kx vx : Expr} {Q : List (Key × D) → Mp → Prop} {xs : List D} {acc : List (Key × D)} (f : D → Key × D) (h : ∀ x ∈ xs, ∃ ρ1, bind x = some ρ1 ∧ (∀ s H C cl fp, WE (Blk X scope s H C cl fp) kx ρ1 M fun y' M' => y' = keyV (f x).1 ∧ M' = M) ∧ (∀ s H C cl fp, WE (Blk X scope s H C cl fp) vx ρ1 M fun y' M' => y' = (f x).2 ∧ M' = M))
    (hl : acc.length + xs.length ≤ sizeLine) (q : Q (mergeG acc (xs.map f)) M) : DCompT X scope kx vx [] bind Q xs acc M := by
  induction xs generalizing acc with
  | nil => simpa [DCompT, mergeG] using q
  | cons x xs ih =>
    obtain ⟨ρ1, e, wk, wv⟩ := h x (List.mem_cons_self ..)
    have hp : (putG acc (f x).1 (f x).2).length ≤ acc.length + 1 := by
      unfold putG
      split
      · simp
      · simp
    refine ⟨by simp at hl; omega, ρ1, true, M, e, fun s H C cl fp => .nil ⟨rfl, rfl⟩, fun z => (nomatch z), fun _ => ⟨(f x).1, M, (f x).2, M, wk, wv, ih (fun y hy => h y (List.mem_cons_of_mem _ hy)) (by simp at hl; omega) (by simpa [mergeG] using q)⟩⟩
end
/-! ### comprehensions with a target of one name, of two -/
section
variable {X : Cx} {scope : Scope} {elt kx vx iter : Expr} {ifs : List Expr} {ρ : En} {M : Mp} {Q : DQ} {own : List (Str × Nat)} {pos tpos q1 q2 : Pos} {n n2 : Str} {E : TEs} {kk : Nat}
abbrev bd1 (ρ : En) (own : List (Str × Nat)) (i : Nat) : D → Option En := fun x => some ((wipeE ρ (own.map (·.2))).set i (some x))
abbrev bd2 (ρ : En) (own : List (Str × Nat)) (i j : Nat) : D → Option En := fun x => match x with
  | .tup [a, b] => some (((wipeE ρ (own.map (·.2))).set i (some a)).set j (some b))
  | _ => none
theorem WE.lc1 (i : Nat) (own : List (Str × Nat)) (hc : X.calm = true) (hN : X.N.Nodup) (ok : BlkOk X.N X.env.scope scope own) (h : WI X (.Name n tpos) iter ρ M fun xs M1 => CompT X scope elt ifs (bd1 ρ own i) Q xs [] M1) (hi : X.N[i]? = some n := by rfl) (hm : i ∈ own.map (·.2) := by decide) (hx : ∀ (s : Shared) (H : Hp) (C : Addr) (cl : List (Str × Addr)) (fp : List Addr), Loc (Blk X scope s H C cl fp).env.scope n ∧ ((Blk X scope s H C cl fp).fn n = true ∨ (Blk X scope s H C cl fp).env.scope.names.lookup n = some .local) := by intro _ _ _ _ _; first | exact ⟨.inl rfl, .inr rfl⟩ | exact ⟨.inr rfl, .inl rfl⟩) (hs : ∀ x, foldedSetIterable iter X.env x = pure x := by intro _; rfl) : WE X (.ListComp elt [⟨.Name n tpos, iter, ifs, 0⟩] scope pos) ρ M Q :=
  WE.lc hc hN ok (bind_name hm) (fun s H C cl fp => pg_name hN hi (hx s H C cl fp).1 (hx s H C cl fp).2) h hs
theorem WE.lc2 (i j : Nat) (own : List (Str × Nat)) (hc : X.calm = true) (hN : X.N.Nodup) (ok : BlkOk X.N X.env.scope scope own) (h : WI X (.Tuple [.Name n q1, .Name n2 q2] kk tpos) iter ρ M fun xs M1 => CompT X scope elt ifs (bd2 ρ own i j) Q xs [] M1) (hi : X.N[i]? = some n := by rfl) (hj : X.N[j]? = some n2 := by rfl) (hm : i ∈ own.map (·.2) := by decide) (hm2 : j ∈ own.map (·.2) := by decide) (hx : ∀ (s : Shared) (H : Hp) (C : Addr) (cl : List (Str × Addr)) (fp : List Addr), Loc (Blk X scope s H C cl fp).env.scope n ∧ ((Blk X scope s H C cl fp).fn n = true ∨ (Blk X scope s H C cl fp).env.scope.names.lookup n = some .local) := by intro _ _ _ _ _; first | exact ⟨.inl rfl, .inr rfl⟩ | exact ⟨.inr rfl, .inl rfl⟩) (hx2 : ∀ (s : Shared) (H : Hp) (C : Addr) (cl : List (Str × Addr)) (fp : List Addr), Loc (Blk X scope s H C cl fp).env.scope n2 ∧ ((Blk X scope s H C cl fp).fn n2 = true ∨ (Blk X scope s H C cl fp).env.scope.names.lookup n2 = some .local) := by intro _ _ _ _ _; first | exact ⟨.inl rfl, .inr rfl⟩ | exact ⟨.inr rfl, .inl rfl⟩) (hs : ∀ x, foldedSetIterable iter X.env x = pure x := by intro _; rfl) : WE X (.ListComp elt [⟨.Tuple [.Name n q1, .Name n2 q2] kk tpos, iter, ifs, 0⟩] scope pos) ρ M Q :=
  WE.lc hc hN ok (bind_two hm hm2) (fun s H C cl fp => pg_tup hc (pgs_cons (pg_name hN hi (hx s H C cl fp).1 (hx s H C cl fp).2) (pgs_cons (pg_name hN hj (hx2 s H C cl fp).1 (hx2 s H C cl fp).2) pgs_nil))) h hs
theorem WS.setLc1 {m : Str} {mpos spos : Pos} (k : Nat) (i : Nat) (own : List (Str × Nat)) (hc : X.calm = true) (hN : X.N.Nodup) (ok : BlkOk X.N X.env.scope scope own) (h : WI X (.Name n tpos) iter ρ M fun xs M1 => CompT X scope elt ifs (bd1 ρ own i) (fun d M2 => E.nx (ρ.set k (some d)) M2) xs [] M1) (hi : X.N[i]? = some n := by rfl) (hm : i ∈ own.map (·.2) := by decide) (hx : ∀ (s : Shared) (H : Hp) (C : Addr) (cl : List (Str × Addr)) (fp : List Addr), Loc (Blk X scope s H C cl fp).env.scope n ∧ ((Blk X scope s H C cl fp).fn n = true ∨ (Blk X scope s H C cl fp).env.scope.names.lookup n = some .local) := by intro _ _ _ _ _; first | exact ⟨.inl rfl, .inr rfl⟩ | exact ⟨.inr rfl, .inl rfl⟩) (hk : X.N[k]? = some m := by rfl) (hl : X.env.scope.names.lookup m = some .local := by rfl) (hsw : swapsWith (.ListComp elt [⟨.Name n tpos, iter, ifs, 0⟩] scope pos) (some (.Name m mpos)) spos.line X.env = pure true := by rfl) (hs : ∀ x, foldedSetIterable iter X.env x = pure x := by intro _; rfl) : WS X (.Assign [.Name m mpos] (.ListComp elt [⟨.Name n tpos, iter, ifs, 0⟩] scope pos) spos) ρ M E :=
  WS.setLc k hc hN ok (bind_name hm) (fun s H C cl fp => pg_name hN hi (hx s H C cl fp).1 (hx s H C cl fp).2) h hk hl hsw hs
theorem WS.setLc2 {m : Str} {mpos spos : Pos} (k : Nat) (i j : Nat) (own : List (Str × Nat)) (hc : X.calm = true) (hN : X.N.Nodup) (ok : BlkOk X.N X.env.scope scope own) (h : WI X (.Tuple [.Name n q1, .Name n2 q2] kk tpos) iter ρ M fun xs M1 => CompT X scope elt ifs (bd2 ρ own i j) (fun d M2 => E.nx (ρ.set k (some d)) M2) xs [] M1) (hi : X.N[i]? = some n := by rfl) (hj : X.N[j]? = some n2 := by rfl) (hm : i ∈ own.map (·.2) := by decide) (hm2 : j ∈ own.map (·.2) := by decide) (hx : ∀ (s : Shared) (H : Hp) (C : Addr) (cl : List (Str × Addr)) (fp : List Addr), Loc (Blk X scope s H C cl fp).env.scope n ∧ ((Blk X scope s H C cl fp).fn n = true ∨ (Blk X scope s H C cl fp).env.scope.names.lookup n = some .local) := by intro _ _ _ _ _; first | exact ⟨.inl rfl, .inr rfl⟩ | exact ⟨.inr rfl, .inl rfl⟩) (hx2 : ∀ (s : Shared) (H : Hp) (C : Addr) (cl : List (Str × Addr)) (fp : List Addr), Loc (Blk X scope s H C cl fp).env.scope n2 ∧ ((Blk X scope s H C cl fp).fn n2 = true ∨ (Blk X scope s H C cl fp).env.scope.names.lookup n2 = some .local) := by intro _ _ _ _ _; first | exact ⟨.inl rfl, .inr rfl⟩ | exact ⟨.inr rfl, .inl rfl⟩) (hk : X.N[k]? = some m := by rfl) (hl : X.env.scope.names.lookup m = some .local := by rfl) (hsw : swapsWith (.ListComp elt [⟨.Tuple [.Name n q1, .Name n2 q2] kk tpos, iter, ifs, 0⟩] scope pos) (some (.Name m mpos)) spos.line X.env = pure true := by rfl) (hs : ∀ x, foldedSetIterable iter X.env x = pure x := by intro _; rfl) : WS X (.Assign [.Name m mpos] (.ListComp elt [⟨.Tuple [.Name n q1, .Name n2 q2] kk tpos, iter, ifs, 0⟩] scope pos) spos) ρ M E :=
  WS.setLc k hc hN ok (bind_two hm hm2) (fun s H C cl fp => pg_tup hc (pgs_cons (pg_name hN hi (hx s H C cl fp).1 (hx s H C cl fp).2) (pgs_cons (pg_name hN hj (hx2 s H C cl fp).1 (hx2 s H C cl fp).2) pgs_nil))) h hk hl hsw hs
theorem WE.dc1 (i : Nat) (own : List (Str × Nat)) (hc : X.calm = true) (hN : X.N.Nodup) (ok : BlkOk X.N X.env.scope scope own) (h : WI X (.Name n tpos) iter ρ M fun xs M1 => DCompT X scope kx vx ifs (bd1 ρ own i) (fun kds M2 => Q (.dic kds) M2) xs [] M1) (hi : X.N[i]? = some n := by rfl) (hm : i ∈ own.map (·.2) := by decide) (hx : ∀ (s : Shared) (H : Hp) (C : Addr) (cl : List (Str × Addr)) (fp : List Addr), Loc (Blk X scope s H C cl fp).env.scope n ∧ ((Blk X scope s H C cl fp).fn n = true ∨ (Blk X scope s H C cl fp).env.scope.names.lookup n = some .local) := by intro _ _ _ _ _; first | exact ⟨.inl rfl, .inr rfl⟩ | exact ⟨.inr rfl, .inl rfl⟩) (hs : ∀ x, foldedSetIterable iter X.env x = pure x := by intro _; rfl) : WE X (.DictComp kx vx [⟨.Name n tpos, iter, ifs, 0⟩] scope pos) ρ M Q :=
  WE.dc hc hN ok (bind_name hm) (fun s H C cl fp => pg_name hN hi (hx s H C cl fp).1 (hx s H C cl fp).2) h hs
theorem WE.dc2 (i j : Nat) (own : List (Str × Nat)) (hc : X.calm = true) (hN : X.N.Nodup) (ok : BlkOk X.N X.env.scope scope own) (h : WI X (.Tuple [.Name n q1, .Name n2 q2] kk tpos) iter ρ M fun xs M1 => DCompT X scope kx vx ifs (bd2 ρ own i j) (fun kds M2 => Q (.dic kds) M2) xs [] M1) (hi : X.N[i]? = some n := by rfl) (hj : X.N[j]? = some n2 := by rfl) (hm : i ∈ own.map (·.2) := by decide) (hm2 : j ∈ own.map (·.2) := by decide) (hx : ∀ (s : Shared) (H : Hp) (C : Addr) (cl : List (Str × Addr)) (fp : List Addr), Loc (Blk X scope s H C cl fp).env.scope n ∧ ((Blk X scope s H C cl fp).fn n = true ∨ (Blk X scope s H C cl fp).env.scope.names.lookup n = some .local) := by intro _ _ _ _ _; first | exact ⟨.inl rfl, .inr rfl⟩ | exact ⟨.inr rfl, .inl rfl⟩) (hx2 : ∀ (s : Shared) (H : Hp) (C : Addr) (cl : List (Str × Addr)) (fp : List Addr), Loc (Blk X scope s H C cl fp).env.scope n2 ∧ ((Blk X scope s H C cl fp).fn n2 = true ∨ (Blk X scope s H C cl fp).env.scope.names.lookup n2 = some .local) := by intro _ _ _ _ _; first | exact ⟨.inl rfl, .inr rfl⟩ | exact ⟨.inr rfl, .inl rfl⟩) (hs : ∀ x, foldedSetIterable iter X.env x = pure x := by intro _; rfl) : WE X (.DictComp kx vx [⟨.Tuple [.Name n q1, .Name n2 q2] kk tpos, iter, ifs, 0⟩] scope pos) ρ M Q :=
  WE.dc hc hN ok (bind_two hm hm2) (fun s H C cl fp => pg_tup hc (pgs_cons (pg_name hN hi (hx s H C cl fp).1 (hx s H C cl fp).2) (pgs_cons (pg_name hN hj (hx2 s H C cl fp).1 (hx2 s H C cl fp).2) pgs_nil))) h hs
theorem WS.setDc1 {m : Str} {mpos spos : Pos} (k : Nat) (i : Nat) (own : List (Str × Nat)) (hc : X.calm = true) (hN : X.N.Nodup) (ok : BlkOk X.N X.env.scope scope own) (h : WI X (.Name n tpos) iter ρ M fun xs M1 => DCompT X scope kx vx ifs (bd1 ρ own i) (fun kds M2 => E.nx (ρ.set k (some (.dic kds))) M2) xs [] M1) (hi : X.N[i]? = some n := by rfl) (hm : i ∈ own.map (·.2) := by decide) (hx : ∀ (s : Shared) (H : Hp) (C : Addr) (cl : List (Str × Addr)) (fp : List Addr), Loc (Blk X scope s H C cl fp).env.scope n ∧ ((Blk X scope s H C cl fp).fn n = true ∨ (Blk X scope s H C cl fp).env.scope.names.lookup n = some .local) := by intro _ _ _ _ _; first | exact ⟨.inl rfl, .inr rfl⟩ | exact ⟨.inr rfl, .inl rfl⟩) (hk : X.N[k]? = some m := by rfl) (hl : X.env.scope.names.lookup m = some .local := by rfl) (hsw : swapsWith (.DictComp kx vx [⟨.Name n tpos, iter, ifs, 0⟩] scope pos) (some (.Name m mpos)) spos.line X.env = pure true := by rfl) (hs : ∀ x, foldedSetIterable iter X.env x = pure x := by intro _; rfl) : WS X (.Assign [.Name m mpos] (.DictComp kx vx [⟨.Name n tpos, iter, ifs, 0⟩] scope pos) spos) ρ M E :=
  WS.setDc k hc hN ok (bind_name hm) (fun s H C cl fp => pg_name hN hi (hx s H C cl fp).1 (hx s H C cl fp).2) h hk hl hsw hs
theorem WS.setDc2 {m : Str} {mpos spos : Pos} (k : Nat) (i j : Nat) (own : List (Str × Nat)) (hc : X.calm = true) (hN : X.N.Nodup) (ok : BlkOk X.N X.env.scope scope own) (h : WI X (.Tuple [.Name n q1, .Name n2 q2] kk tpos) iter ρ M fun xs M1 => DCompT X scope kx vx ifs (bd2 ρ own i j) (fun kds M2 => E.nx (ρ.set k (some (.dic kds))) M2) xs [] M1) (hi : X.N[i]? = some n := by rfl) (hj : X.N[j]? = some n2 := by rfl) (hm : i ∈ own.map (·.2) := by decide) (hm2 : j ∈ own.map (·.2) := by decide) (hx : ∀ (s : Shared) (H : Hp) (C : Addr) (cl : List (Str × Addr)) (fp : List Addr), Loc (Blk X scope s H C cl fp).env.scope n ∧ ((Blk X scope s H C cl fp).fn n = true ∨ (Blk X scope s H C cl fp).env.scope.names.lookup n = some .local) := by intro _ _ _ _ _; first | exact ⟨.inl rfl, .inr rfl⟩ | exact ⟨.inr rfl, .inl rfl⟩) (hx2 : ∀ (s : Shared) (H : Hp) (C : Addr) (cl : List (Str × Addr)) (fp : List Addr), Loc (Blk X scope s H C cl fp).env.scope n2 ∧ ((Blk X scope s H C cl fp).fn n2 = true ∨ (Blk X scope s H C cl fp).env.scope.names.lookup n2 = some .local) := by intro _ _ _ _ _; first | exact ⟨.inl rfl, .inr rfl⟩ | exact ⟨.inr rfl, .inl rfl⟩) (hk : X.N[k]? = some m := by rfl) (hl : X.env.scope.names.lookup m = some .local := by rfl) (hsw : swapsWith (.DictComp kx vx [⟨.Tuple [.Name n q1, .Name n2 q2] kk tpos, iter, ifs, 0⟩] scope pos) (some (.Name m mpos)) spos.line X.env = pure true := by rfl) (hs : ∀ x, foldedSetIterable iter X.env x = pure x := by intro _; rfl) : WS X (.Assign [.Name m mpos] (.DictComp kx vx [⟨.Tuple [.Name n q1, .Name n2 q2] kk tpos, iter, ifs, 0⟩] scope pos) spos) ρ M E :=
  WS.setDc k hc hN ok (bind_two hm hm2) (fun s H C cl fp => pg_tup hc (pgs_cons (pg_name hN hi (hx s H C cl fp).1 (hx s H C cl fp).2) (pgs_cons (pg_name hN hj (hx2 s H C cl fp).1 (hx2 s H C cl fp).2) pgs_nil))) h hk hl hsw hs
end
/-! ### for loops by what holds of what is left -/
theorem WG.imp {X : Cx} {tg : Expr} {x : D} {ρ : En} {M : Mp} {R R' : En → Mp → Prop} (h : WG X tg x ρ M R) (q : ∀ ρ M, R ρ M → R' ρ M) : WG X tg x ρ M R' :=
  ⟨fun pins s σ H F v u I S r rp => thn (h.run pins s σ H F v u I S r rp) fun _ s' ⟨σ', H', I', F', M', ρ', t, S', z⟩ => ⟨σ', H', I', F', M', ρ', t, S', q _ _ z⟩⟩
theorem ForT.by {X : Cx} {tg : Expr} {body : List Stmt} {E : TEs} (P : List D → En → Mp → Prop) (step : ∀ x xs ρ M, P (x :: xs) ρ M → WG X tg x ρ M fun ρ1 M1 => WSs X body ρ1 M1 { nx := P xs, ct := P xs, rt := E.rt, bk := E.nx })
    (done : ∀ ρ M, P [] ρ M → ∃ ρt, Le ρt ρ ∧ E.nx ρt M) : ∀ {xs : List D} {ρ : En} {M : Mp}, P xs ρ M → ForT X tg body E xs ρ M
  | [], ρ, M, h => done ρ M h
  | x :: xs, ρ, M, h => WG.imp (step x xs ρ M h) fun ρ1 M1 w => w.imp (fun _ _ z => ForT.by P step done z) (fun _ _ z => z) (fun _ _ z => z) (fun _ _ z => ForT.by P step done z)
theorem WT.imp {X : Cx} {e : Expr} {ρ : En} {M : Mp} {R R' : Bool → Mp → Prop} (h : WT X e ρ M R) (q : ∀ b M, R b M → R' b M) : WT X e ρ M R' := ⟨fun pins s σ H F I S => thn (h.run pins s σ H F I S) fun _ _ ⟨H', F', M', I', t, z⟩ => ⟨H', F', M', I', t, q _ _ z⟩⟩
/-- an if whose test is false -/
theorem WSs.skip {X : Cx} {c : Expr} {body rest : List Stmt} {pos : Pos} {ρ : En} {M : Mp} {E : TEs} (h : WT X c ρ M fun k M' => k = false ∧ WSs X rest ρ M' E) : WSs X (.If c body [] pos :: rest) ρ M E :=
  .cons (.ite (h.imp fun k M' ⟨e, q⟩ => ⟨fun z => (by rw [e] at z; cases z), fun _ => .done q⟩))
/-- an if whose test is true, that ends there -/
theorem WSs.take {X : Cx} {c : Expr} {body orelse rest : List Stmt} {pos : Pos} {ρ : En} {M : Mp} {E : TEs} (h : WT X c ρ M fun k M' => k = true ∧ WSs X body ρ M' { E with nx := fun ρ' M' => WSs X rest ρ' M' E }) : WSs X (.If c body orelse pos :: rest) ρ M E :=
  .cons (.ite (h.imp fun k M' ⟨e, q⟩ => ⟨fun _ => q, fun z => (by rw [e] at z; cases z)⟩))
theorem WE.globI {X : Cx} {M : Mp} {ρ : En} {Q : DQ} {x : Str} {i : Int} {t : Tok} {pos : Pos} (hm : X.mg x = some (.int i t)) (h : Q (.int i) M) (hg : Gl X x := by rfl) (hd : (x == ("__debug__" : Str)) = false := by decide) : WE X (.Name x pos) ρ M Q :=
  .glob (v := .int i) hm ⟨t, rfl⟩ (fun _ => .int i) h hg hd
theorem WE.globS {X : Cx} {M : Mp} {ρ : En} {Q : DQ} {x : Str} {z : String} {t : Tok} {pos : Pos} (hm : X.mg x = some (.str (Str.ofString z) t)) (h : Q (.str (lit z)) M) (hg : Gl X x := by rfl) (hd : (x == ("__debug__" : Str)) = false := by decide) : WE X (.Name x pos) ρ M Q :=
  .glob (v := .str (Str.ofString z)) hm ⟨t, rfl⟩ (fun _ => by rw [lit_eq]; exact .str _) h hg hd
/-! ### data that may be compared -/
mutual
def dep : D → Nat
  | .tup xs | .lst xs => deps xs + 1
  | _ => 0
def deps : List D → Nat
  | [] => 0
  | d :: ds => max (dep d) (deps ds)
end
mutual
/-- data that may be compared, of any depth -/
def isS : D → Bool
  | .non | .bl _ | .int _ => true
  | .str x => PyData.strOk ⟨x.toArray⟩
  | .tup xs | .lst xs => areS xs
  | .ty _ | .ref _ | .dic _ | .ins _ _ | .xn _ _ _ | .tun _ => false
def areS : List D → Bool
  | [] => true
  | d :: ds => isS d && areS ds
end
mutual
theorem py_lay : ∀ d : D, isS d = true → isPy d = true ∧ (py d).canLay0 = true ∧ (py d).depth = dep d
  | .non, _ => ⟨rfl, by simp [py, PyData.canLay0], by simp [py, PyData.depth, dep]⟩
  | .bl _, _ => ⟨rfl, by simp [py, PyData.canLay0], by simp [py, PyData.depth, dep]⟩
  | .int _, _ => ⟨rfl, by simp [py, PyData.canLay0], by simp [py, PyData.depth, dep]⟩
  | .str x, h => ⟨rfl, by simpa [py, PyData.canLay0, isS] using h, by simp [py, PyData.depth, dep]⟩
  | .ty _, h => by simp [isS] at h
  | .ref _, h => by simp [isS] at h
  | .dic _, h => by simp [isS] at h
  | .ins _ _, h => by simp [isS] at h
  | .xn _ _ _, h => by simp [isS] at h
  | .tun _, h => by simp [isS] at h
  | .tup xs, h => by
    obtain ⟨h0, h1, h2⟩ := pys_lay xs (by simpa [isS] using h)
    exact ⟨by simpa [isPy] using h0, by simpa [py, PyData.canLay0] using h1, by simp [py, PyData.depth, dep, h2]⟩
  | .lst xs, h => by
    obtain ⟨h0, h1, h2⟩ := pys_lay xs (by simpa [isS] using h)
    exact ⟨by simpa [isPy] using h0, by simpa [py, PyData.canLay0] using h1, by simp [py, PyData.depth, dep, h2]⟩
theorem pys_lay : ∀ ds : List D, areS ds = true → arePy ds = true ∧ PyData.canLayAll0 (pys ds) = true ∧ PyData.depthAll (pys ds) = deps ds
  | [], _ => ⟨rfl, by simp [pys, PyData.canLayAll0], by simp [pys, PyData.depthAll, deps]⟩
  | d :: ds, h => by
    simp only [areS, Bool.and_eq_true] at h
    obtain ⟨h0, h1, h2⟩ := py_lay d h.1
    obtain ⟨h3, h4, h5⟩ := pys_lay ds h.2
    exact ⟨by simp [arePy, h0, h3], by simp [pys, PyData.canLayAll0, h1, h4], by simp [pys, PyData.depthAll, deps, h2, h5]⟩
end
theorem shp_of {d : D} (h : isS d = true) (hd : dep d ≤ 64) : shp d = true := by
  obtain ⟨h0, h1, h2⟩ := py_lay d h
  unfold shp SeqAt.shaped
  rw [h0, h1, h2]
  simpa using hd
theorem areS_of {ds : List D} (h : ∀ d ∈ ds, isS d = true) : areS ds = true := by
  induction ds with
  | nil => rfl
  | cons d ds ih => simp [areS, h d (List.mem_cons_self ..), ih fun e he => h e (List.mem_cons_of_mem _ he)]
theorem deps_le {ds : List D} {n : Nat} (h : ∀ d ∈ ds, dep d ≤ n) : deps ds ≤ n := by
  induction ds with
  | nil => exact Nat.zero_le _
  | cons d ds ih => exact Nat.max_le.mpr ⟨h d (List.mem_cons_self ..), ih fun e he => h e (List.mem_cons_of_mem _ he)⟩
theorem atI_nat {α : Type} {xs : List α} {i : Nat} : L2.atI xs (i : Int) = xs[i]? := by
  unfold L2.atI L2.ixN
  rw [if_pos (by omega)]
  by_cases h : i < xs.length
  · rw [if_pos (by omega)]
    simp
  · rw [if_neg (by omega), List.getElem?_eq_none (by omega)]
    rfl
end TL
end
section
set_option maxRecDepth 100000
set_option maxHeartbeats 0
/-! K82C: the small defs walked. -/
namespace K82
open PySem PySem.Spec PyProof.Rows L2 TL
open He (ga ma fAd)
section
variable {w : World} {K : PySem.W.Frag} {mg : Str → Option Value} {base : Heap} {M : Mp} {Q : DQ}
theorem t_is_whole (c : E82 w K mg base) {i : Int} (h : Q (.bl true) M) : TFn P82 w K mg base 1 (ga K "is_whole") (fdOf K ("is_whole", none)) ["thing"] [.int i] M Q := by
  refine TFn.of c.f_is_whole s_is_whole rfl fun cdv A outer s H F hr => ?_
  refine .one (.ret (WE.and (WE.callB c.n_isinstance rfl (.cons (.var 0 rfl (.cons (.ty c.n_int rfl (.nil ?_)) ))))))
  refine VC.isi (t := "int") (b := true) rfl rfl ⟨_, rfl, fun z => (nomatch z), fun _ => ?_⟩
  refine .one (.not (.callB c.n_isinstance rfl (.cons (.var 0 rfl (.cons (.ty c.n_bool rfl (.nil ?_)))))))
  exact VC.isi (t := "int") (b := false) rfl rfl ⟨_, rfl, h⟩
theorem t_is_below (c : E82 w K mg base) {i n : Int} (h0 : 0 ≤ i) (h1 : i < n) (h : Q (.bl true) M) : TFn P82 w K mg base 2 (ga K "is_below") (fdOf K ("is_below", none)) ["thing", "bound"] [.int i, .int n] M Q := by
  refine TFn.of c.f_is_below s_is_below rfl fun cdv A outer s H F hr => ?_
  refine .one (.ret (WE.and (WE.call hr c.g_is_whole c.f_is_whole.kp c.b_is_whole (.cons (.var 0 rfl (.nil (t_is_whole c ⟨_, rfl, fun z => (nomatch z), fun _ => ?_⟩)))))))
  refine .one (.chain (.int (.var 0 rfl (.le ⟨_, rfl, fun z => ?_, fun _ => .var 1 rfl (.lt ?_)⟩))))
  · simp [h0] at z
  · simpa [h1] using h
def riseB (ns : List Int) : Bool := (List.zipWith (fun a b => decide (a < b)) ns (ns.drop 1)).all fun b => b
theorem cut1 {α : Type} (xs : List α) : TL.cutD xs (some 1) none = xs.drop 1 := by
  cases xs with
  | nil => rfl
  | cons x xs =>
    have e1 : HT.sIx (x :: xs).length 0 (some 1) = 1 := by
      rw [show (1 : Int) = ((1 : Nat) : Int) from rfl, HT.sIx_nat]
      simp
    unfold TL.cutD
    rw [e1, HT.sIx_none]
    simp
theorem zp_ints (ms ns : List Int) : zpD (ms.map D.int) (ns.map D.int) = List.zipWith (fun a b => D.tup [.int a, .int b]) ms ns := by
  induction ms generalizing ns with
  | nil => rfl
  | cons m ms ih => cases ns with
    | nil => rfl
    | cons n ns => simp only [List.map_cons, zpD, List.zipWith_cons_cons]; exact congrArg _ (ih ns)
theorem t_do_rise (c : E82 w K mg base) {ns : List Int} (hl : ns.length ≤ 100) (h : Q (.bl (riseB ns)) M) : TFn P82 w K mg base 1 (ga K "do_rise") (fdOf K ("do_rise", none)) ["numbers"] [.tup (ns.map D.int)] M Q := by
  refine TFn.of c.f_do_rise s_do_rise rfl fun cdv A outer s H F hr => ?_
  refine .one (.ret (WE.callB c.n_all rfl (.cons ?_)))
  refine WE.lc2 1 2 [("one", 1), ("other", 2)] rfl s_do_rise.nd (show BlkOk n_do_rise q_do_rise _ _ from ⟨rfl, by decide +kernel, by decide +kernel, by decide +kernel, by decide +kernel⟩) ?_
  refine WI.zip c.n_zip (.cons (.var 0 rfl (.cons (.slice (.var 0 rfl (.some (.int ⟨1, rfl, .none (.tup (.nil ?_))⟩)))))))
  refine ⟨_, _, _, _, rfl, rfl, rfl, ?_⟩
  rw [cut1, ← List.map_drop, zp_ints]
  refine CompT.map (fun d => match d with | .tup [.int a, .int b] => .bl (decide (a < b)) | _ => .non) (fun x hx => ?_) ?_ ?_
  · obtain ⟨i, hi, rfl⟩ := List.mem_iff_getElem.mp hx
    rw [List.getElem_zipWith]
    exact ⟨_, rfl, fun s H C cl fp => .cmp (.var 1 rfl (.var 2 rfl (.lt ⟨rfl, rfl⟩)))⟩
  · rw [sizeLine_eq]; simp; omega
  · refine .nil ?_
    have e : (List.zipWith (fun a b => D.tup [.int a, .int b]) ns (ns.drop 1)).map (fun d => match d with | .tup [.int a, .int b] => D.bl (decide (a < b)) | _ => .non) = (List.zipWith (fun a b => decide (a < b)) ns (ns.drop 1)).map D.bl := by
      rw [List.map_zipWith, List.map_zipWith]
    rw [List.nil_append, e]
    exact VC.all rfl h
theorem t_is_lift_below (c : E82 w K mg base) {ns : List Int} {n : Int} (hl : ns.length ≤ 100) (hb : ∀ i ∈ ns, 0 ≤ i ∧ i < n) (hr : riseB ns = true) (h : Q (.bl true) M) : TFn P82 w K mg base 3 (ga K "is_lift_below") (fdOf K ("is_lift_below", none)) ["shafts", "thing"] [.int n, .tup (ns.map D.int)] M Q := by
  refine TFn.of c.f_is_lift_below s_is_lift_below rfl fun cdv A outer s H F hr2 => ?_
  refine .one (.ret (WE.and (WE.callB c.n_isinstance rfl (.cons (.var 1 rfl (.cons (.ty c.n_tuple rfl (.nil ?_))))))))
  refine VC.isi (t := "tuple") (b := true) rfl rfl ⟨_, rfl, fun z => (nomatch z), fun _ => ?_⟩
  refine WE.and (WE.callB c.n_all rfl (.cons ?_))
  refine WE.lc1 2 [("shaft", 2)] rfl s_is_lift_below.nd (show BlkOk n_is_lift_below q_is_lift_below _ _ from ⟨rfl, by decide +kernel, by decide +kernel, by decide +kernel, by decide +kernel⟩) ?_
  refine WI.tup (.var 1 rfl ⟨_, rfl, ?_⟩)
  refine CompT.map (fun _ => .bl true) (fun x hx => ?_) (by rw [sizeLine_eq]; simp; omega) (.nil ?_)
  · obtain ⟨i, hi, rfl⟩ := List.mem_map.mp hx
    exact ⟨_, rfl, fun s H C cl fp => .call hr2 c.g_is_below c.f_is_below.kp c.b_is_below (.cons (.var 2 rfl (.cons (.var 0 rfl (.nil (t_is_below c (hb i hi).1 (hb i hi).2 ⟨rfl, rfl⟩))))))⟩
  · have e : (ns.map D.int).map (fun _ => D.bl true) = (ns.map fun _ => true).map D.bl := by rw [List.map_map, List.map_map]; rfl
    rw [List.nil_append, e]
    refine VC.all rfl ⟨_, rfl, fun z => ?_, fun _ => ?_⟩
    · simp at z
    · refine .one (.call (hr2.mono (by omega)) c.g_do_rise c.f_do_rise.kp c.b_do_rise (.cons (.var 1 rfl (.nil (t_do_rise c hl ?_)))))
      rw [hr]; exact h
end
end K82
end
section
set_option maxRecDepth 100000
set_option maxHeartbeats 0
/-! K82D: looms. -/
namespace K82
open PySem PySem.Spec PyProof.Rows L2 TL
open He (ga ma fAd)
/-- a loom's data -/
structure LW where
  sh : Int
  ends : List Int
  lifts : List (List Int)
abbrev tupI (ns : List Int) : D := .tup (ns.map D.int)
abbrev alpha : List Nat := lit "abcdefghijklmnopqrstuvwxyz"
def LW.insF (v : LW) : List (Str × D) := [("shafts", .int v.sh), ("threading", tupI v.ends), ("lifts", .tup (v.lifts.map tupI)), ("letters", .str (alpha.take v.lifts.length)), ("used", tupI (sortI (uniq [] v.ends)))]
/-- the code's loom -/
def loomD (K : PySem.W.Frag) (v : LW) : D := .ins (ga K "Loom") v.insF
/-- what a loom must be -/
structure LW.Ok (v : LW) : Prop where
  s1 : 1 ≤ v.sh
  s2 : v.sh ≤ 99
  e0 : v.ends ≠ []
  e1 : v.ends.length ≤ 100
  e2 : ∀ i ∈ v.ends, 0 ≤ i ∧ i < v.sh
  l0 : v.lifts ≠ []
  l1 : v.lifts.length ≤ 26
  l2 : ∀ l ∈ v.lifts, l.length ≤ 100 ∧ (∀ i ∈ l, 0 ≤ i ∧ i < v.sh) ∧ riseB l = true
theorem isS_ints (ns : List Int) : areS (ns.map D.int) = true := areS_of fun d hd => by
  obtain ⟨i, _, rfl⟩ := List.mem_map.mp hd
  rfl
theorem dep_ints (ns : List Int) : deps (ns.map D.int) = 0 := Nat.le_zero.mp (deps_le fun d hd => by
  obtain ⟨i, _, rfl⟩ := List.mem_map.mp hd
  exact Nat.le_refl 0)
theorem shp_ints (ns : List Int) : shp (tupI ns) = true := shp_of (isS_ints ns) (by simp [dep, dep_ints])
theorem shp_lifts (ls : List (List Int)) : shp (.tup (ls.map tupI)) = true := by
  refine shp_of (areS_of fun d hd => ?_) ?_
  · obtain ⟨l, _, rfl⟩ := List.mem_map.mp hd
    exact isS_ints l
  · have : deps (ls.map tupI) ≤ 1 := deps_le fun d hd => by
      obtain ⟨l, _, rfl⟩ := List.mem_map.mp hd
      simp [dep, dep_ints]
    simp only [dep]
    omega
theorem eqv_map {α : Type} [DecidableEq α] (f : α → D) (hf : ∀ a b, eqD (f a) (f b) = decide (a = b)) : ∀ l m : List α, PyData.eqvAll (pys (l.map f)) (pys (m.map f)) = decide (l = m)
  | [], [] => by simp [pys, PyData.eqvAll]
  | [], b :: m => by simp [pys, PyData.eqvAll]
  | a :: l, [] => by simp [pys, PyData.eqvAll]
  | a :: l, b :: m => by
    have h1 : PyData.eqv (py (f a)) (py (f b)) = decide (a = b) := hf a b
    simp only [List.map_cons, pys, PyData.eqvAll, h1, eqv_map f hf l m]
    by_cases h : a = b <;> by_cases h2 : l = m <;> simp [h, h2]
theorem eqD_ints (l m : List Int) : eqD (tupI l) (tupI m) = decide (l = m) := by
  show PyData.eqv (py (tupI l)) (py (tupI m)) = _
  simp only [tupI, py, PyData.eqv]
  exact eqv_map D.int (fun a b => by
    simp only [TL.eqD, py, PyData.eqv]
    by_cases h : a = b <;> simp [h]) l m
theorem eqD_lifts (l m : List (List Int)) : eqD (.tup (l.map tupI)) (.tup (m.map tupI)) = decide (l = m) := by
  show PyData.eqv (py (.tup (l.map tupI))) (py (.tup (m.map tupI))) = _
  simp only [py, PyData.eqv]
  exact eqv_map tupI eqD_ints l m
section
variable {w : World} {K : PySem.W.Frag} {mg : Str → Option Value} {base : Heap} {M : Mp} {Q : DQ}
theorem t_Loom_init (c : E82 w K mg base) {v : LW} (ok : v.Ok) {z : Addr} (hz : M z = none) (h : Q (loomD K v) M) :
    TFn P82 w K mg base 4 (ma K (ga K "Loom") "__init__") (fdOf K ("Loom", some "__init__")) ["self", "shafts", "threading", "lifts"] [.ref z, .int v.sh, tupI v.ends, .tup (v.lifts.map tupI)] (mset M z (.ins (ga K "Loom") [])) (MakeQ (ga K "Loom") z Q) := by
  refine TFn.of c.f_Loom_init s_Loom_init rfl fun cdv A outer s H F hr => ?_
  have u : (A.deeper (envOfC "Loom.__init__" q_Loom_init s.heap.objs.size (ma K (ga K "Loom") "__init__") cdv)).units + 64 < cLine := hr.room.units
  have s1 := ok.s1
  have s2 := ok.s2
  obtain ⟨tm, vm⟩ := c.v_MOST_SHAFTS
  obtain ⟨tt, vt⟩ := c.v_TREADLES
  refine .skip (.ww (.or (.not ?_)))
  refine .val (.call (hr.mono (j := 1) (by omega)) c.g_is_whole c.f_is_whole.kp c.b_is_whole (.cons (.var 1 rfl (.nil ?_))))
  refine t_is_whole c ⟨_, rfl, fun z => (nomatch z), fun _ => ?_⟩
  refine .or1 (.not (.chain (.int (.var 1 rfl ?_))))
  refine .le ⟨_, rfl, fun z => ?_, fun _ => ?_⟩
  · simp at z; omega
  refine WE.globI vm (.le ⟨_, rfl, ?_, ?_⟩)
  · simp; omega
  -- threading
  refine .skip (.ww (.or (.not ?_)))
  refine .val (.callB c.n_isinstance rfl (.cons (.var 2 rfl (.cons (.ty c.n_tuple rfl (.nil ?_))))))
  refine VC.isi (t := "tuple") (b := true) rfl rfl ⟨_, rfl, fun z => (nomatch z), fun _ => ?_⟩
  refine .or1 (.cmp (.var 2 rfl (.tuple (.nil ⟨by decide, ?_⟩))))
  refine VO.eqD u (shp_ints _) rfl ⟨_, rfl, ?_, ?_⟩
  · cases he : v.ends with
    | nil => exact absurd he ok.e0
    | cons x xs => simp [TL.eqD, py, pys, PyData.eqv, PyData.eqvAll]
  refine .skip (.not (.val (.callB c.n_all rfl (.cons ?_))))
  refine WE.lc1 4 [("shaft", 4)] rfl s_Loom_init.nd (show BlkOk n_Loom_init q_Loom_init _ _ from ⟨rfl, by decide +kernel, by decide +kernel, by decide +kernel, by decide +kernel⟩) ?_
  refine WI.tup (.var 2 rfl ⟨_, rfl, ?_⟩)
  have h1 := ok.e1
  refine CompT.map (fun _ => .bl true) (fun x hx => ?_) (by rw [sizeLine_eq]; simp; omega) (.nil ?_)
  · obtain ⟨i, hi, rfl⟩ := List.mem_map.mp hx
    refine ⟨_, rfl, fun s H C cl fp => .call (hr.mono (j := 2) (by omega)) c.g_is_below c.f_is_below.kp c.b_is_below (.cons (.var 4 rfl (.cons (.var 1 rfl (.nil (t_is_below c (ok.e2 i hi).1 (ok.e2 i hi).2 ⟨rfl, rfl⟩))))))⟩
  have e : (v.ends.map D.int).map (fun _ => D.bl true) = (v.ends.map fun _ => true).map D.bl := by rw [List.map_map, List.map_map]; rfl
  rw [List.nil_append, e]
  refine VC.all rfl ⟨_, rfl, by simp, ?_⟩
  -- lifts
  refine .skip (.ww (.or (.not ?_)))
  refine .val (.callB c.n_isinstance rfl (.cons (.var 3 rfl (.cons (.ty c.n_tuple rfl (.nil ?_))))))
  refine VC.isi (t := "tuple") (b := true) rfl rfl ⟨_, rfl, fun z => (nomatch z), fun _ => ?_⟩
  refine .or1 (.not (.chain (.int (.callB c.n_len rfl (.cons (.var 3 rfl (.nil ?_)))))))
  have l0 : 1 ≤ v.lifts.length := by
    cases he : v.lifts with
    | nil => exact absurd he ok.l0
    | cons _ _ => simp
  have l1 := ok.l1
  refine VC.len (n := v.lifts.length) (by simp [lenD]) (.le ⟨_, rfl, fun z => ?_, fun _ => ?_⟩)
  · simp at z; omega
  refine .callB c.n_len rfl (.cons (.globS vt (.nil ?_)))
  refine VC.len (n := 26) (by decide +kernel) (.le ⟨_, rfl, ?_, ?_⟩)
  · simp; omega
  -- each lift
  refine .cons (.for (L2.passes_of rfl) rfl ?_)
  refine WI.enum c.n_enumerate (.var 3 rfl ⟨_, rfl, ?_⟩)
  refine ForT.by (fun rest ρ M' => M' = mset M z (.ins (ga K "Loom") []) ∧ (∃ x5 x6, ρ = [some (.ref z), some (.int v.sh), some (tupI v.ends), some (.tup (v.lifts.map tupI)), none, x5, x6]) ∧ ∀ d ∈ rest, ∃ (i : Int) (l : List Int), l ∈ v.lifts ∧ d = .tup [.int i, tupI l]) ?_ ?_ ⟨rfl, ⟨none, none, rfl⟩, ?_⟩
  · rintro x xs ρ M' ⟨rfl, ⟨x5, x6, rfl⟩, hx⟩
    obtain ⟨i, l, hl, rfl⟩ := hx x (List.mem_cons_self ..)
    have o := ok.l2 l hl
    refine .tup rfl (.cons (.name 5 (.cons (.name 6 (.nil ?_) s_Loom_init.nd)) s_Loom_init.nd))
    refine .skip (.not (.val (.call (hr.mono (j := 3) (by omega)) c.g_is_lift_below c.f_is_lift_below.kp c.b_is_lift_below (.cons (.var 1 rfl (.cons (.var 6 rfl (.nil ?_))))))))
    refine t_is_lift_below c o.1 o.2.1 o.2.2 ⟨_, rfl, rfl, .done ?_⟩
    exact ⟨rfl, ⟨_, _, rfl⟩, fun d hd => hx d (List.mem_cons_of_mem _ hd)⟩
  · rintro ρ M' ⟨rfl, ⟨x5, x6, rfl⟩, _⟩
    refine ⟨[some (.ref z), some (.int v.sh), some (tupI v.ends), some (.tup (v.lifts.map tupI)), none, none, none], by simp [Le], ?_⟩
    have putL : ∀ (f : Str) (d : D) (fs : List (Str × D)), (∀ p ∈ fs, p.1 ≠ f) → putD f d fs = fs ++ [(f, d)] := fun f d fs hf => by
      induction fs with
      | nil => rfl
      | cons p fs ih =>
        obtain ⟨g, x⟩ := p
        have := hf (g, x) (List.mem_cons_self ..)
        simp only [putD, if_neg this, List.cons_append]
        rw [ih fun p hp => hf p (List.mem_cons_of_mem _ hp)]
    refine .cons (.fld (.var 1 rfl (.var 0 rfl ⟨z, _, _, rfl, mset_same, c.cls_Loom, c.no_Loom_shafts, by decide, ?_⟩)))
    rw [mset_mset, putL _ _ _ (by decide +kernel)]
    refine .cons (.fld (.var 2 rfl (.var 0 rfl ⟨z, _, _, rfl, mset_same, c.cls_Loom, c.no_Loom_threading, by simp, ?_⟩)))
    rw [mset_mset, putL _ _ _ (by simp; decide +kernel)]
    refine .cons (.fld (.var 3 rfl (.var 0 rfl ⟨z, _, _, rfl, mset_same, c.cls_Loom, c.no_Loom_lifts, by simp, ?_⟩)))
    rw [mset_mset, putL _ _ _ (by simp; decide +kernel)]
    refine .cons (.fld (.slice (.globS vt (.none (.some ?_)))))
    refine .callB c.n_len rfl (.cons (.var 3 rfl (.nil ?_)))
    refine VC.len (n := v.lifts.length) (by simp [lenD]) ⟨_, rfl, ?_⟩
    refine VS.str (by decide +kernel) (.var 0 rfl ⟨z, _, _, rfl, mset_same, c.cls_Loom, c.no_Loom_letters, by simp, ?_⟩)
    rw [mset_mset, putL _ _ _ (by simp; decide +kernel)]
    refine .cons (.fld (.callTy c.n_tuple rfl (.cons ?_)))
    refine .sortedSetI rfl c.n_sorted c.n_set (.var 2 rfl ⟨v.ends, .tupI _, by have := ok.e1; unfold scanBound; omega, .nil ?_⟩)
    refine VC.tupleL (.var 0 rfl ⟨z, _, _, rfl, mset_same, c.cls_Loom, c.no_Loom_used, by simp, ?_⟩)
    rw [mset_mset, putL _ _ _ (by simp; decide +kernel)]
    refine .done ⟨rfl, _, mset_same, ?_⟩
    rw [mdel_mset hz]
    have ec : TL.cutD (lit "abcdefghijklmnopqrstuvwxyz") none (some (v.lifts.length : Int)) = alpha.take v.lifts.length := by
      unfold TL.cutD
      rw [HT.sIx_none, HT.sIx_nat, List.drop_zero, Nat.sub_zero]
      have : (lit "abcdefghijklmnopqrstuvwxyz").length = 26 := by decide +kernel
      rw [Nat.min_eq_left (by omega)]
    rw [ec]
    exact h
  · intro d hd
    obtain ⟨i, hi, rfl⟩ := List.mem_map.mp hd
    rw [List.length_map] at hi
    have hi' := List.mem_range.mp hi
    refine ⟨i, v.lifts[i], List.getElem_mem _, ?_⟩
    rw [List.getD_eq_getElem?_getD, List.getElem?_map, List.getElem?_eq_getElem hi']
    rfl
/-- a letter's place -/
theorem occ_alpha : ∀ i : Fin 26, Builtin.Str.occurrences ⟨(lit "abcdefghijklmnopqrstuvwxyz").toArray⟩ ⟨[97 + i.val].toArray⟩ 0 (lit "abcdefghijklmnopqrstuvwxyz").length 1 = [i.val] := by decide +kernel
theorem t_Loom_lift_of (c : E82 w K mg base) {v : LW} {i : Nat} (hi : i < v.lifts.length) (ho : v.lifts.length ≤ 26) (h : ∀ l, v.lifts[i]? = some l → Q (tupI l) M) : TFn P82 w K mg base 1 (ma K (ga K "Loom") "lift_of") (fdOf K ("Loom", some "lift_of")) ["self", "letter"] [loomD K v, .str [97 + i]] M Q := by
  refine TFn.of c.f_Loom_lift_of s_Loom_lift_of rfl fun cdv A outer s H F hr => ?_
  obtain ⟨tt, vt⟩ := c.v_TREADLES
  refine .one (.ret (.ix (.fld (.var 0 rfl ⟨_, v.insF, _, rfl, c.cls_Loom, c.no_Loom_lifts, by rfl, ?_⟩))))
  refine .bm PySem.F.plainAttrs_str PySem.F.slot_str_index PySem.F.type_str_index (.globS vt ⟨.str, .cons (.var 1 rfl (.nil ?_))⟩)
  refine VM.sindex (occ_alpha ⟨i, by omega⟩) ?_
  refine VI.tup (d := tupI v.lifts[i]) ?_ (h _ (List.getElem?_eq_getElem hi))
  rw [TL.atI_nat, List.getElem?_map, List.getElem?_eq_getElem hi]
  rfl
end
end K82
end
section
set_option maxRecDepth 100000
set_option maxHeartbeats 0
/-! K82E: treadlings, cloths, weaving. -/
namespace K82
open PySem PySem.Spec PyProof.Rows L2 TL
open He (ga ma fAd)
/-- signs that a treadling of the loom may have -/
def okTr (v : LW) (t : List Nat) : Bool := t.all fun c => decide (c ∈ alpha.take v.lifts.length)
def clothD (K : PySem.W.Frag) (rows : List (List Nat)) : D := .ins (ga K "Cloth") [("picks", .tup (rows.map D.str)), ("ends", .int (rows.headD []).length)]
section
variable {w : World} {K : PySem.W.Frag} {mg : Str → Option Value} {base : Heap} {M : Mp} {Q : DQ}
theorem t_is_treadling (c : E82 w K mg base) {v : LW} {t : List Nat} (hl : t.length ≤ 1000) (h : Q (.bl (okTr v t)) M) : TFn P82 w K mg base 1 (ga K "is_treadling") (fdOf K ("is_treadling", none)) ["loom", "thing"] [loomD K v, .str t] M Q := by
  refine TFn.of c.f_is_treadling s_is_treadling rfl fun cdv A outer s H F hr => ?_
  refine .one (.ret (WE.and (WE.callB c.n_isinstance rfl (.cons (.var 1 rfl (.cons (.ty c.n_str rfl (.nil ?_))))))))
  refine VC.isi (t := "str") (b := true) rfl rfl ⟨_, rfl, fun z => (nomatch z), fun _ => ?_⟩
  refine .one (WE.callB c.n_all rfl (.cons ?_))
  refine WE.lc1 2 [("sign", 2)] rfl s_is_treadling.nd (show BlkOk n_is_treadling q_is_treadling _ _ from ⟨rfl, by decide +kernel, by decide +kernel, by decide +kernel, by decide +kernel⟩) ?_
  refine WI.str (.var 1 rfl ⟨_, rfl, ?_⟩)
  refine CompT.map (fun d => match d with | .str [x] => .bl (decide (x ∈ alpha.take v.lifts.length)) | _ => .non) (fun x hx => ?_) (by rw [sizeLine_eq]; simp; omega) (.nil ?_)
  · obtain ⟨i, hi, rfl⟩ := List.mem_map.mp hx
    refine ⟨_, rfl, fun s H C cl fp => .cmp (.var 2 rfl (.fld (.var 0 rfl ⟨_, v.insF, _, rfl, c.cls_Loom, c.no_Loom_letters, by rfl, .inSign ⟨rfl, rfl⟩⟩)))⟩
  · have e : (t.map fun x => D.str [x]).map (fun d => match d with | .str [x] => D.bl (decide (x ∈ alpha.take v.lifts.length)) | _ => .non) = (t.map fun x => decide (x ∈ alpha.take v.lifts.length)).map D.bl := by rw [List.map_map, List.map_map]; rfl
    rw [List.nil_append, e]
    refine VC.all rfl ?_
    have e2 : ((t.map fun x => decide (x ∈ alpha.take v.lifts.length)).all fun b => b) = okTr v t := by
      unfold okTr
      rw [List.all_map]
      rfl
    rw [e2]
    exact h
/-- .. of what is no text -/
theorem t_is_treadling_no (c : E82 w K mg base) {v : LW} {d : D} {t : String} (ht : tyD d = some t) (hk : kitB t "str" = some false) (h : Q (.bl false) M) : TFn P82 w K mg base 1 (ga K "is_treadling") (fdOf K ("is_treadling", none)) ["loom", "thing"] [loomD K v, d] M Q := by
  refine TFn.of c.f_is_treadling s_is_treadling rfl fun cdv A outer s H F hr => ?_
  refine .one (.ret (WE.and (WE.callB c.n_isinstance rfl (.cons (.var 1 rfl (.cons (.ty c.n_str rfl (.nil ?_))))))))
  exact VC.isi ht hk ⟨_, rfl, fun _ => h, fun z => (nomatch z)⟩
def pickOk (t : List Nat) : Prop := t ≠ [] ∧ ∀ c ∈ t, c = 120 ∨ c = 45
theorem t_is_pick (c : E82 w K mg base) {t : List Nat} (hl : t.length ≤ 1000) (ok : pickOk t) (h : Q (.bl true) M) : TFn P82 w K mg base 1 (ga K "is_pick") (fdOf K ("is_pick", none)) ["thing"] [.str t] M Q := by
  refine TFn.of c.f_is_pick s_is_pick rfl fun cdv A outer s H F hr => ?_
  obtain ⟨es, n, KD⟩ := c.dict_OTHER
  obtain ⟨u1, e1⟩ := c.in_OTHER_0
  obtain ⟨u2, e2⟩ := c.in_OTHER_1
  refine .one (.ret (WE.and (WE.callB c.n_isinstance rfl (.cons (.var 0 rfl (.cons (.ty c.n_str rfl (.nil ?_))))))))
  refine VC.isi (t := "str") (b := true) rfl rfl ⟨_, rfl, fun z => (nomatch z), fun _ => ?_⟩
  refine .and (.cmp (.var 0 rfl (.str (.neS ⟨_, rfl, fun z => ?_, fun _ => ?_⟩))))
  · have : t = [] := by simpa [lit] using z
    exact absurd this ok.1
  refine .one (WE.callB c.n_all rfl (.cons ?_))
  refine WE.lc1 1 [("sign", 1)] rfl s_is_pick.nd (show BlkOk n_is_pick q_is_pick _ _ from ⟨rfl, by decide +kernel, by decide +kernel, by decide +kernel, by decide +kernel⟩) ?_
  refine WI.str (.var 0 rfl ⟨_, rfl, ?_⟩)
  refine CompT.map (fun _ => .bl true) (fun x hx => ?_) (by rw [sizeLine_eq]; simp; omega) (.nil ?_)
  · obtain ⟨i, hi, rfl⟩ := List.mem_map.mp hx
    refine ⟨_, rfl, fun s H C cl fp => .cmp (.var 1 rfl (.cls c.g_OTHER ?_))⟩
    rcases ok.2 i hi with rfl | rfl
    · exact VO.inKD KD (r := some u1) e1 ⟨rfl, rfl⟩
    · exact VO.inKD KD (r := some u2) e2 ⟨rfl, rfl⟩
  · have e : (t.map fun x => D.str [x]).map (fun _ => D.bl true) = (t.map fun _ => true).map D.bl := by rw [List.map_map, List.map_map]; rfl
    rw [List.nil_append, e]
    refine VC.all rfl ?_
    rw [show ((t.map fun _ => true).all fun b => b) = true from by simp]
    exact h
end
end K82
end
section
set_option maxRecDepth 100000
set_option maxHeartbeats 0
/-! K82F: cloths, weaving. -/
namespace K82
open PySem PySem.Spec PyProof.Rows L2 TL
open He (ga ma fAd)
/-- what a cloth must be -/
structure CW (rows : List (List Nat)) (n : Nat) : Prop where
  r0 : rows ≠ []
  r1 : rows.length ≤ 1000
  n0 : n ≠ 0
  n1 : n ≤ 1000
  r2 : ∀ t ∈ rows, t.length = n ∧ ∀ c ∈ t, c = 120 ∨ c = 45
theorem isS_texts {rows : List (List Nat)} {n : Nat} (h : CW rows n) : areS (rows.map D.str) = true := areS_of fun d hd => by
  obtain ⟨t, ht, rfl⟩ := List.mem_map.mp hd
  show PyData.strOk ⟨t.toArray⟩ = true
  unfold PyData.strOk
  simp only [List.all_toArray, List.all_eq_true, decide_eq_true_eq]
  intro c hc
  rcases (h.r2 t ht).2 c hc with rfl | rfl <;> omega
theorem dep_texts (rows : List (List Nat)) : deps (rows.map D.str) = 0 := Nat.le_zero.mp (deps_le fun d hd => by
  obtain ⟨i, _, rfl⟩ := List.mem_map.mp hd
  exact Nat.le_refl 0)
theorem shp_texts {rows : List (List Nat)} {n : Nat} (h : CW rows n) : shp (.tup (rows.map D.str)) = true := shp_of (isS_texts h) (by simp [dep, dep_texts])
theorem eqD_texts (l m : List (List Nat)) : eqD (.tup (l.map D.str)) (.tup (m.map D.str)) = decide (l = m) := by
  show PyData.eqv (py (.tup (l.map D.str))) (py (.tup (m.map D.str))) = _
  simp only [py, PyData.eqv]
  exact eqv_map D.str (fun a b => by
    simp only [TL.eqD, py, PyData.eqv]
    by_cases h : a = b <;> simp [h]) l m
section
variable {w : World} {K : PySem.W.Frag} {mg : Str → Option Value} {base : Heap} {M : Mp} {Q : DQ}
theorem t_Cloth_init (c : E82 w K mg base) {rows : List (List Nat)} {n : Nat} (ok : CW rows n) {z : Addr} (hz : M z = none) (h : Q (clothD K rows) M) :
    TFn P82 w K mg base 3 (ma K (ga K "Cloth") "__init__") (fdOf K ("Cloth", some "__init__")) ["self", "picks"] [.ref z, .tup (rows.map D.str)] (mset M z (.ins (ga K "Cloth") [])) (MakeQ (ga K "Cloth") z Q) := by
  refine TFn.of c.f_Cloth_init s_Cloth_init rfl fun cdv A outer s H F hr => ?_
  have u := hr.room.units
  have n1 := ok.n1
  refine .skip (.ww (.or (.not ?_)))
  refine .val (.callB c.n_isinstance rfl (.cons (.var 1 rfl (.cons (.ty c.n_tuple rfl (.nil ?_))))))
  refine VC.isi (t := "tuple") (b := true) rfl rfl ⟨_, rfl, fun z => (nomatch z), fun _ => ?_⟩
  refine .or1 (.cmp (.var 1 rfl (.tuple (.nil ⟨by decide, ?_⟩))))
  obtain ⟨r, rs, er⟩ : ∃ r rs, rows = r :: rs := by
    cases e : rows with
    | nil => exact absurd e ok.r0
    | cons r rs => exact ⟨r, rs, rfl⟩
  have hr0 : r ∈ rows := by rw [er]; exact List.mem_cons_self ..
  have lr : r.length = n := (ok.r2 r hr0).1
  refine VO.eqD u (shp_texts ok) rfl ⟨_, rfl, ?_, ?_⟩
  · rw [er]; simp [TL.eqD, py, pys, PyData.eqv, PyData.eqvAll]
  have at0 : L2.atI (rows.map D.str) 0 = some (.str r) := by rw [er, show (0 : Int) = ((0 : Nat) : Int) from rfl, TL.atI_nat]; rfl
  refine .cons (.for (L2.passes_of rfl) rfl ?_)
  refine WI.enum c.n_enumerate (.var 1 rfl ⟨_, rfl, ?_⟩)
  refine ForT.by (fun rest ρ M' => M' = mset M z (.ins (ga K "Cloth") []) ∧ (∃ x2 x3, ρ = [some (.ref z), some (.tup (rows.map D.str)), x2, x3]) ∧ ∀ d ∈ rest, ∃ (i : Int) (t : List Nat), t ∈ rows ∧ d = .tup [.int i, .str t]) ?_ ?_ ⟨rfl, ⟨none, none, rfl⟩, ?_⟩
  · rintro x xs ρ M' ⟨rfl, ⟨x5, x6, rfl⟩, hx⟩
    obtain ⟨i, t, ht, rfl⟩ := hx x (List.mem_cons_self ..)
    have o := ok.r2 t ht
    have tl : t.length ≤ 1000 := by omega
    refine .tup rfl (.cons (.name 2 (.cons (.name 3 (.nil ?_) s_Cloth_init.nd)) s_Cloth_init.nd))
    refine .skip (.ww (.or (.not (.val (.call (hr.mono (j := 1) (by omega)) c.g_is_pick c.f_is_pick.kp c.b_is_pick (.cons (.var 3 rfl (.nil ?_))))))))
    refine t_is_pick c tl ⟨fun e => ok.n0 (by rw [← o.1, e]; rfl), o.2⟩ ⟨_, rfl, fun z => (nomatch z), fun _ => ?_⟩
    refine .or1 (.cmp (.callB c.n_len rfl (.cons (.var 3 rfl (.nil ?_)))))
    refine VC.len (n := n) (by simp [lenD, o.1, sizeLine_eq]; omega) (.callB c.n_len rfl (.cons (.ix (.var 1 rfl (.int (.tup at0 (.nil ?_)))))))
    refine VC.len (n := n) (by simp [lenD, lr, sizeLine_eq]; omega) (.neI ⟨_, rfl, by simp, .done ?_⟩)
    exact ⟨rfl, ⟨_, _, rfl⟩, fun d hd => hx d (List.mem_cons_of_mem _ hd)⟩
  · rintro ρ M' ⟨rfl, ⟨x5, x6, rfl⟩, _⟩
    refine ⟨[some (.ref z), some (.tup (rows.map D.str)), none, none], by simp [Le], ?_⟩
    refine .cons (.fld (.var 1 rfl (.var 0 rfl ⟨z, _, _, rfl, mset_same, c.cls_Cloth, c.no_Cloth_picks, by decide, ?_⟩)))
    rw [mset_mset]
    refine .cons (.fld (.callB c.n_len rfl (.cons (.ix (.var 1 rfl (.int (.tup at0 (.nil ?_)))))))) 
    refine VC.len (n := n) (by simp [lenD, lr, sizeLine_eq]; omega) (.var 0 rfl ⟨z, _, _, rfl, mset_same, c.cls_Cloth, c.no_Cloth_ends, by simp [putD], ?_⟩)
    rw [mset_mset]
    refine .done ⟨rfl, _, mset_same, ?_⟩
    rw [mdel_mset hz]
    have e : (.ins (ga K "Cloth") (putD "ends" (.int n) (putD "picks" (.tup (rows.map D.str)) [])) : D) = clothD K rows := by
      unfold clothD
      rw [er, List.headD_cons, lr]
      rfl
    rw [e]
    exact h
  · intro d hd
    obtain ⟨i, hi, rfl⟩ := List.mem_map.mp hd
    rw [List.length_map] at hi
    have hi' := List.mem_range.mp hi
    refine ⟨i, rows[i], List.getElem_mem _, ?_⟩
    rw [List.getD_eq_getElem?_getD, List.getElem?_map, List.getElem?_eq_getElem hi']
    rfl
theorem t_Cloth_len (c : E82 w K mg base) {rows : List (List Nat)} (h : Q (.int rows.length) M) : TFn P82 w K mg base 1 (ma K (ga K "Cloth") "__len__") (fdOf K ("Cloth", some "__len__")) ["self"] [clothD K rows] M Q := by
  refine TFn.of c.f_Cloth_len s_Cloth_len rfl fun cdv A outer s H F hr => ?_
  refine .one (.ret (.callB c.n_len rfl (.cons (.fld (.var 0 rfl ⟨_, _, _, rfl, c.cls_Cloth, c.no_Cloth_picks, by rfl, .nil ?_⟩)))))
  exact VC.len (n := rows.length) (by simp [lenD]) h
theorem t_Cloth_eq (c : E82 w K mg base) {a b : List (List Nat)} {n m : Nat} (oa : CW a n) (ob : CW b m) (h : Q (.bl (decide (a = b))) M) : TFn P82 w K mg base 1 (ma K (ga K "Cloth") "__eq__") (fdOf K ("Cloth", some "__eq__")) ["self", "other"] [clothD K a, clothD K b] M Q := by
  refine TFn.of c.f_Cloth_eq s_Cloth_eq rfl fun cdv A outer s H F hr => ?_
  have u' := hr.room.units
  refine .one (.ret (.and (.callB c.n_isinstance rfl (.cons (.var 1 rfl (.cons (.cls c.g_Cloth (.nil ?_))))))))
  refine VC.isC c.is_Cloth c.kit_Cloth ⟨_, rfl, fun z => (nomatch z), fun _ => ?_⟩
  refine .one (.cmp (.fld (.var 0 rfl ⟨_, _, _, rfl, c.cls_Cloth, c.no_Cloth_picks, by rfl, ?_⟩)))
  refine .fld (.var 1 rfl ⟨_, _, _, rfl, c.cls_Cloth, c.no_Cloth_picks, by rfl, VO.eqD u' (shp_texts oa) (shp_texts ob) ?_⟩)
  rw [eqD_texts]
  exact h
/-- one pick -/
def pickOf (ends lift : List Int) : List Nat := ends.map fun e => if e ∈ lift then 120 else 45
theorem flat_ints (l : List Int) : (l.map D.int).all flatD = true := List.all_eq_true.mpr fun d hd => by
  obtain ⟨i, _, rfl⟩ := List.mem_map.mp hd
  rfl
theorem any_ints (l : List Int) (i : Int) : ((l.map D.int).any fun z => TL.eqD z (.int i)) = decide (i ∈ l) := by
  rw [List.any_map]
  by_cases h : i ∈ l
  · rw [decide_eq_true h, List.any_eq_true]
    exact ⟨i, h, by simp [TL.eqD, py, PyData.eqv]⟩
  · rw [decide_eq_false h, List.any_eq_false]
    intro x hx
    have : x ≠ i := fun e => h (e ▸ hx)
    simp [TL.eqD, py, PyData.eqv, this]
theorem t_pick_of (c : E82 w K mg base) {v : LW} (ok : v.Ok) {i : Nat} {l : List Int} (hi : v.lifts[i]? = some l) (h : Q (.str (pickOf v.ends l)) M) : TFn P82 w K mg base 2 (ga K "pick_of") (fdOf K ("pick_of", none)) ["loom", "letter"] [loomD K v, .str [97 + i]] M Q := by
  refine TFn.of c.f_pick_of s_pick_of rfl fun cdv A outer s H F hr => ?_
  obtain ⟨ta, va⟩ := c.v_ABOVE
  obtain ⟨tb, vb⟩ := c.v_BELOW
  have lt : i < v.lifts.length := (List.getElem?_eq_some_iff.mp hi).1
  have h1 := ok.e1
  refine .cons (.set 2 (.meth (hr.mono (j := 1) (by omega)) c.cls_Loom c.meth_Loom_lift_of c.b_Loom_lift_of (.var 0 rfl ⟨v.insF, rfl, rfl, .cons (.var 1 rfl (.nil ?_))⟩)) s_pick_of.nd)
  refine t_Loom_lift_of c lt ok.l1 fun l' hl' => ?_
  obtain rfl : l' = l := by rw [hi] at hl'; exact (Option.some.inj hl').symm
  refine .one (.ret (.bm PySem.F.plainAttrs_str PySem.F.slot_str_join PySem.F.type_str_join (.str ⟨.str, .cons ?_⟩)))
  refine WE.lc1 3 [("shaft", 3)] rfl s_pick_of.nd (show BlkOk n_pick_of q_pick_of _ _ from ⟨rfl, by decide +kernel, by decide +kernel, by decide +kernel, by decide +kernel⟩) ?_
  refine WI.tup (.fld (.var 0 rfl ⟨_, v.insF, _, rfl, c.cls_Loom, c.no_Loom_threading, by rfl, ⟨_, rfl, ?_⟩⟩))
  refine CompT.map (fun d => match d with | .int e => .str [if e ∈ l' then 120 else 45] | _ => .non) (fun x hx => ?_) (by rw [sizeLine_eq]; simp; omega) (.nil ?_)
  · obtain ⟨e, he, rfl⟩ := List.mem_map.mp hx
    refine ⟨_, rfl, fun s H C cl fp => .ife (.cmp (.var 3 rfl (.var 2 rfl (.inT rfl (flat_ints _) ⟨_, rfl, ?_⟩))))⟩
    rw [any_ints]
    refine ⟨fun z => ?_, fun z => ?_⟩
    · have := of_decide_eq_true z
      exact .globS va ⟨by simp [this, lit], rfl⟩
    · have := of_decide_eq_false z
      exact .globS vb ⟨by simp [this, lit], rfl⟩
  · have e : (v.ends.map D.int).map (fun d => match d with | .int e => D.str [if e ∈ l' then 120 else 45] | _ => .non) = (v.ends.map fun e => [if e ∈ l' then 120 else 45]).map D.str := by rw [List.map_map, List.map_map]; rfl
    rw [List.nil_append, e]
    have e2 : (v.ends.map fun e => [if e ∈ l' then 120 else 45]).flatten = pickOf v.ends l' := by
      unfold pickOf
      induction v.ends with
      | nil => rfl
      | cons a r ih => simp only [List.map_cons, List.flatten_cons, ih]; rfl
    refine VM.joinL ?_ ?_
    · have : ((v.ends.map fun e => [if e ∈ l' then 120 else 45]).map List.length).sum = v.ends.length := by
        rw [List.map_map]
        induction v.ends with
        | nil => rfl
        | cons a r ih => simp [ih]; omega
      omega
    · rw [e2]; exact h
end
end K82
end
section
set_option maxRecDepth 100000
/-! TU: what a dict that was filled holds. -/
namespace TL
open PySem PySem.Spec PyProof.Rows L2
section
variable {α : Type} {kvs : List (Key × α)} {k k' : Key} {v : α}
theorem lookK_nil : lookK ([] : List (Key × α)) k = none := rfl
theorem lookK_cons {p : Key × α} : lookK (p :: kvs) k = if p.1 = k then some p.2 else lookK kvs k := by
  unfold lookK
  rw [List.find?_cons]
  by_cases h : p.1 = k <;> simp [h]
theorem lookK_app : lookK (kvs ++ [(k, v)]) k' = match lookK kvs k' with
  | some u => some u
  | none => if k = k' then some v else none := by
  induction kvs with
  | nil => rw [List.nil_append, lookK_cons]; rfl
  | cons p r ih =>
    rw [List.cons_append, lookK_cons, lookK_cons]
    by_cases h : p.1 = k'
    · simp [h]
    · simp only [h, if_false]; exact ih
theorem lookK_map : lookK (kvs.map fun kv => if kv.1 = k then (kv.1, v) else kv) k' = if k = k' then (lookK kvs k').map (fun _ => v) else lookK kvs k' := by
  induction kvs with
  | nil => simp [lookK]
  | cons p r ih =>
    rw [List.map_cons, lookK_cons, lookK_cons, ih]
    by_cases h : p.1 = k
    · subst h
      by_cases h2 : p.1 = k'
      · simp [h2]
      · simp [h2]
    · by_cases h2 : k = k'
      · subst h2
        simp [h]
      · simp [h, h2]
theorem lookK_any : (kvs.any fun kv => decide (kv.1 = k)) = (lookK kvs k).isSome := by
  induction kvs with
  | nil => rfl
  | cons p r ih =>
    rw [List.any_cons, lookK_cons, ih]
    by_cases h : p.1 = k <;> simp [h]
theorem lookK_put : lookK (putG kvs k v) k' = if k = k' then some v else lookK kvs k' := by
  unfold putG
  rw [lookK_any]
  cases e : lookK kvs k with
  | some u =>
    rw [Option.isSome_some, if_pos rfl, lookK_map]
    by_cases h : k = k'
    · subst h; simp [e]
    · simp [h]
  | none =>
    rw [Option.isSome_none, if_neg Bool.false_ne_true, lookK_app]
    by_cases h : k = k'
    · subst h; simp [e]
    · simp only [h, if_false]
      cases lookK kvs k' <;> rfl
theorem lookK_merge {g : Key → α} : ∀ {kds acc : List (Key × α)}, (∀ p ∈ kds, p.2 = g p.1) → (k ∈ kds.map (·.1) ∨ lookK acc k = some (g k)) → lookK (mergeG acc kds) k = some (g k)
  | [], acc, _, h => by
    rcases h with h | h
    · cases h
    · exact h
  | p :: kds, acc, hp, h => by
    show lookK (mergeG (putG acc p.1 p.2) kds) k = _
    refine lookK_merge (fun q hq => hp q (List.mem_cons_of_mem _ hq)) ?_
    by_cases e : p.1 = k
    · right
      rw [lookK_put, if_pos e, hp p (List.mem_cons_self ..), e]
    · rcases h with h | h
      · rw [List.map_cons, List.mem_cons] at h
        rcases h with h | h
        · exact absurd h.symm e
        · exact .inl h
      · right
        rw [lookK_put, if_neg e]; exact h
end
end TL
end
section
set_option maxRecDepth 100000
set_option maxHeartbeats 0
/-! K82G: weaving. -/
namespace K82
open PySem PySem.Spec PyProof.Rows L2 TL
open He (ga ma fAd)
section
variable {w : World} {K : PySem.W.Frag} {mg : Str → Option Value} {base : Heap} {M : Mp} {Q : DQ}
theorem mem_alpha {c n : Nat} (hn : n ≤ 26) (h : c ∈ alpha.take n) : ∃ i, i < n ∧ c = 97 + i := by
  have : ∀ n, n ≤ 26 → ∀ c ∈ alpha.take n, 97 ≤ c ∧ c < 97 + n := by decide +kernel
  have := this n hn c h
  exact ⟨c - 97, by omega, by omega⟩
theorem mem_sU {x : Nat} {t : List Nat} : x ∈ sortN (uniq [] t) ↔ x ∈ t := by
  rw [(sortN_perm _).mem_iff, mem_uniq]; simp
/-- the pick of a sign -/
def rowOf (v : LW) (x : Nat) : List Nat := pickOf v.ends (v.lifts.getD (x - 97) [])
theorem t_woven (c : E82 w K mg base) {v : LW} (ok : v.Ok) {t : List Nat} (h0 : t ≠ []) (hl : t.length ≤ 1000) (ht : okTr v t = true) (h : Q (clothD K (t.map (rowOf v))) M) : TFn P82 w K mg base 6 (ga K "woven") (fdOf K ("woven", none)) ["loom", "treadling"] [loomD K v, .str t] M Q := by
  refine TFn.of c.f_woven s_woven rfl fun cdv A outer s H F hr => ?_
  have hu := hr.room.units
  have hu1 : (A.deeper (envOfC "woven" q_woven s.heap.objs.size (ga K "woven") cdv)).units + 1 < cLine := by omega
  refine .skip (.ww (.or (.not ?_)))
  refine .val (.call (hr.mono (j := 1) (by omega)) c.g_is_treadling c.f_is_treadling.kp c.b_is_treadling (.cons (.var 0 rfl (.cons (.var 1 rfl (.nil ?_))))))
  refine t_is_treadling c hl ?_
  rw [ht]
  refine ⟨_, rfl, fun z => (nomatch z), fun _ => ?_⟩
  refine .or1 (.cmp (.var 1 rfl (.str (VO.eqS ⟨_, rfl, by simpa [lit] using h0, ?_⟩))))
  refine .cons (.set 2 (.dc1 3 [("letter", 3)] rfl s_woven.nd (show BlkOk n_woven q_woven _ _ from ⟨rfl, by decide +kernel, by decide +kernel, by decide +kernel, by decide +kernel⟩) ?_) s_woven.nd)
  refine WI.list (WE.sortedSetS rfl c.n_sorted c.n_set (.var 1 rfl ⟨t, rfl, by show _ < 4096; omega, ?_⟩))
  refine ⟨_, rfl, ?_⟩
  refine DCompT.map (fun d => match d with | .str [x] => (.inr (sg x), .str (rowOf v x)) | _ => (.inl 0, .non)) (fun x hx => ?_) (by have h1 := (sortN_perm (uniq [] t)).length_eq; have h2 := uniq_len t []; rw [sizeLine_eq]; simp at h1 h2 ⊢; omega) ?_
  · obtain ⟨x, hx, rfl⟩ := List.mem_map.mp hx
    refine ⟨_, rfl, fun s H C cl fp => .var 3 rfl ⟨rfl, rfl⟩, fun s H C cl fp => .call (hr.mono (j := 2) (by omega)) c.g_pick_of c.f_pick_of.kp c.b_pick_of (.cons (.var 0 rfl (.cons (.var 3 rfl (.nil ?_)))))⟩
    have hx1 : x ∈ t := mem_sU.mp (by simpa using hx)
    have hx2 : x ∈ alpha.take v.lifts.length := of_decide_eq_true (List.all_eq_true.mp ht x hx1)
    obtain ⟨i, hi, rfl⟩ := mem_alpha ok.l1 hx2
    refine t_pick_of c ok (l := v.lifts.getD i []) (by rw [List.getD_eq_getElem?_getD, List.getElem?_eq_getElem hi]; rfl) ⟨?_, rfl⟩
    show D.str _ = D.str (rowOf v (97 + i))
    unfold rowOf
    rw [Nat.add_sub_cancel_left]
  refine .one (.ret (WE.make c.mk_Cloth (hr.mono (j := 4) (by omega)) c.g_Cloth c.b_Cloth_init (.cons (.callTy c.n_tuple rfl (.cons ?_)))))
  refine WE.lc1 3 [("letter", 3)] rfl s_woven.nd (show BlkOk n_woven q_woven _ _ from ⟨rfl, by decide +kernel, by decide +kernel, by decide +kernel, by decide +kernel⟩) ?_
  refine WI.str (.var 1 rfl ⟨t, rfl, ?_⟩)
  refine CompT.map (fun d => match d with | .str [x] => .str (rowOf v x) | _ => .non) (fun x hx => ?_) (by rw [sizeLine_eq]; simp; omega) (.nil ?_)
  · obtain ⟨x, hx, rfl⟩ := List.mem_map.mp hx
    have lk : lookK (mergeG [] (((sortN (uniq [] t)).map fun c => D.str [c]).map fun d => match d with | .str [x] => ((.inr (sg x) : Key), D.str (rowOf v x)) | _ => (.inl 0, .non))) (.inr (sg x)) = some (.str (rowOf v x)) := by
      refine lookK_merge (g := fun k => match k with | .inr s => D.str (rowOf v (s.cps.toList.headD 0)) | _ => D.non) (fun p hp => ?_) (.inl ?_)
      · simp only [List.map_map] at hp
        obtain ⟨y, _, rfl⟩ := List.mem_map.mp hp
        rfl
      · simp only [List.map_map]
        exact List.mem_map.mpr ⟨x, mem_sU.mpr (by simpa using hx), rfl⟩
    refine ⟨_, rfl, fun s H C cl fp => .ix (.var 2 rfl (.var 3 rfl (VI.get (k := .inr (sg x)) (d := .str (rowOf v x)) hu1 rfl lk ⟨rfl, rfl⟩)))⟩
  refine VC.tupleL ?_
  refine .nil fun z hz => ?_
  have e : (t.map fun c => D.str [c]).map (fun d => match d with | .str [x] => D.str (rowOf v x) | _ => .non) = (t.map (rowOf v)).map D.str := by rw [List.map_map, List.map_map]; rfl
  rw [List.nil_append, e]
  exact t_Cloth_init c (n := v.ends.length) ⟨by simpa using h0, by simpa using hl, by simpa using ok.e0, Nat.le_trans ok.e1 (by omega), fun r hr => by
    obtain ⟨x, _, rfl⟩ := List.mem_map.mp hr
    refine ⟨by simp [rowOf, pickOf], fun c hc => ?_⟩
    obtain ⟨e, _, rfl⟩ := List.mem_map.mp hc
    split <;> simp⟩ hz h
end
end K82
end
section
set_option maxRecDepth 100000
/-! TKd: loops by what was taken; kinds numbered in order. -/
namespace TL
open PySem PySem.Spec PyProof.Rows L2
/-- a for loop over items, by what holds behind the part taken -/
theorem ForT.map {X : Cx} {tg : Expr} {body : List Stmt} {E : TEs} {α : Type} (f : α → D) (P : List α → En → Mp → Prop) {items : List α}
    (step : ∀ pre x post ρ M, items = pre ++ x :: post → P pre ρ M → WG X tg (f x) ρ M fun ρ1 M1 => WSs X body ρ1 M1 { nx := P (pre ++ [x]), ct := P (pre ++ [x]), rt := E.rt, bk := E.nx })
    (done : ∀ ρ M, P items ρ M → ∃ ρt, Le ρt ρ ∧ E.nx ρt M) {ρ : En} {M : Mp} (h : P [] ρ M) : ForT X tg body E (items.map f) ρ M := by
  refine ForT.by (fun rest ρ M => ∃ pre post, items = pre ++ post ∧ rest = post.map f ∧ P pre ρ M) ?_ ?_ ⟨[], items, rfl, rfl, h⟩
  · rintro x xs ρ M ⟨pre, post, e, er, p⟩
    cases post with
    | nil => cases er
    | cons y post =>
      rw [List.map_cons] at er
      cases er
      refine WG.imp (step pre y post ρ M e p) fun ρ1 M1 w => w.imp (fun _ _ z => ?_) (fun _ _ z => z) (fun _ _ z => z) (fun _ _ z => ?_)
      · exact ⟨pre ++ [y], post, by rw [e, List.append_assoc]; rfl, rfl, z⟩
      · exact ⟨pre ++ [y], post, by rw [e, List.append_assoc]; rfl, rfl, z⟩
  · rintro ρ M ⟨pre, post, e, er, p⟩
    cases post with
    | nil => rw [List.append_nil] at e; rw [e] at done; exact done ρ M p
    | cons y post => cases er
/-- a comprehension that may write, by what holds behind the part taken -/
theorem CompT.step {X : Cx} {scope : Scope} {elt : Expr} {Q : DQ} {bind : D → Option En} {α : Type} (f : α → D) (P : List α → List D → Mp → Prop) {items : List α}
    (step : ∀ pre x post acc M, items = pre ++ x :: post → P pre acc M → ∃ ρ1, bind (f x) = some ρ1 ∧ (∀ s H C cl fp, WE (Blk X scope s H C cl fp) elt ρ1 M fun y M1 => P (pre ++ [x]) (acc ++ [y]) M1))
    (hl : items.length ≤ sizeLine) (q : ∀ acc M, P items acc M → Q (.lst acc) M) {M : Mp} (h : P [] [] M) : CompT X scope elt [] bind Q (items.map f) [] M := by
  have key : ∀ (post pre : List α) (acc : List D) (M : Mp), items = pre ++ post → acc.length = pre.length → P pre acc M → CompT X scope elt [] bind Q (post.map f) acc M := by
    intro post
    induction post with
    | nil =>
      intro pre acc M e _ p
      rw [List.append_nil] at e
      subst e
      exact q acc M p
    | cons x post ih =>
      intro pre acc M e ha p
      obtain ⟨ρ1, eb, w⟩ := step pre x post acc M e p
      refine ⟨?_, ρ1, eb, fun b' M' => b' = true ∧ M' = M, fun s H C cl fp => .nil ⟨rfl, rfl⟩, fun _ z => (nomatch z.1), fun M1 z => ?_⟩
      · rw [e] at hl
        simp at hl
        omega
      · obtain ⟨_, rfl⟩ := z
        exact ⟨_, w, fun y M2 hy => ih (pre ++ [x]) (acc ++ [y]) M2 (by rw [e, List.append_assoc]; rfl) (by simp [ha]) hy⟩
  exact key items [] [] M rfl rfl h
/-- .. whose test may write -/
theorem CompT.stepIf {X : Cx} {scope : Scope} {elt c : Expr} {Q : DQ} {bind : D → Option En} {α : Type} (f : α → D) (P : List α → List D → Mp → Prop) {items : List α}
    (step : ∀ pre x post acc M, items = pre ++ x :: post → P pre acc M → ∃ ρ1, bind (f x) = some ρ1 ∧ ∃ B : Bool → Mp → Prop, (∀ s H C cl fp, WT (Blk X scope s H C cl fp) c ρ1 M B) ∧ (∀ M1, B false M1 → P (pre ++ [x]) acc M1) ∧
      ∀ M1, B true M1 → (∀ s H C cl fp, WE (Blk X scope s H C cl fp) elt ρ1 M1 fun y M2 => P (pre ++ [x]) (acc ++ [y]) M2))
    (hl : items.length ≤ sizeLine) (q : ∀ acc M, P items acc M → Q (.lst acc) M) {M : Mp} (h : P [] [] M) : CompT X scope elt [c] bind Q (items.map f) [] M := by
  have key : ∀ (post pre : List α) (acc : List D) (M : Mp), items = pre ++ post → acc.length ≤ pre.length → P pre acc M → CompT X scope elt [c] bind Q (post.map f) acc M := by
    intro post
    induction post with
    | nil =>
      intro pre acc M e _ p
      rw [List.append_nil] at e
      subst e
      exact q acc M p
    | cons x post ih =>
      intro pre acc M e ha p
      obtain ⟨ρ1, eb, B, wb, q1, q2⟩ := step pre x post acc M e p
      refine ⟨?_, ρ1, eb, B, fun s H C cl fp => .one (wb s H C cl fp), fun M1 z => ?_, fun M1 z => ?_⟩
      · rw [e] at hl
        simp at hl
        omega
      · exact ih (pre ++ [x]) acc M1 (by rw [e, List.append_assoc]; rfl) (by simp; omega) (q1 M1 z)
      · exact ⟨_, q2 M1 z, fun y M2 hy => ih (pre ++ [x]) (acc ++ [y]) M2 (by rw [e, List.append_assoc]; rfl) (by simp; omega) hy⟩
  exact key items [] [] M rfl (Nat.le_refl _) h
section
variable {α : Type} [DecidableEq α]
theorem uniq_app : ∀ (l m acc : List α), uniq acc (l ++ m) = uniq (uniq acc l) m
  | [], m, acc => rfl
  | x :: l, m, acc => by
    show uniq _ (l ++ m) = uniq (uniq _ l) m
    rw [uniq_app l m]
theorem uniq_snoc (l : List α) (x : α) : uniq [] (l ++ [x]) = if x ∈ uniq [] l then uniq [] l else uniq [] l ++ [x] := by
  rw [uniq_app]; rfl
/-- what is numbered stays so -/
theorem uniq_pre : ∀ (l acc : List α), ∃ t, uniq acc l = acc ++ t
  | [], acc => ⟨[], by simp [uniq]⟩
  | x :: l, acc => by
    unfold uniq
    obtain ⟨t, e⟩ := uniq_pre l (if x ∈ acc then acc else acc ++ [x])
    rw [e]
    split
    · exact ⟨t, rfl⟩
    · exact ⟨x :: t, by rw [List.append_assoc]; rfl⟩
/-- the place of an item -/
def ixOf (u : List α) (x : α) : Nat := u.idxOf x
/-- the numbers of the kinds, in the order of their first ones -/
def kindsOf (l : List α) : List Int := l.map fun x => ((ixOf (uniq [] l) x : Nat) : Int)
def numD (f : α → Key) : List α → Nat → List (Key × D)
  | [], _ => []
  | x :: u, k => (f x, .int k) :: numD f u (k + 1)
theorem numD_len (f : α → Key) : ∀ (u : List α) (k : Nat), (numD f u k).length = u.length
  | [], _ => rfl
  | _ :: u, k => by simp [numD, numD_len f u]
theorem numD_snoc (f : α → Key) (x : α) : ∀ (u : List α) (k : Nat), numD f (u ++ [x]) k = numD f u k ++ [(f x, .int (k + u.length : Nat))]
  | [], k => by simp [numD]
  | y :: u, k => by
    rw [List.cons_append, numD, numD, numD_snoc f x u, List.cons_append, List.length_cons]
    rw [show k + 1 + u.length = k + (u.length + 1) by omega]
theorem lookK_num {f : α → Key} (hf : ∀ a b, f a = f b → a = b) (x : α) : ∀ (u : List α) (k : Nat), lookK (numD f u k) (f x) = if x ∈ u then some (.int (k + ixOf u x : Nat)) else none
  | [], k => by simp [numD, lookK]
  | y :: u, k => by
    rw [numD, lookK_cons, lookK_num hf x u]
    by_cases h : y = x
    · subst h
      simp [ixOf]
    · have h2 : ¬ f y = f x := fun z => h (hf _ _ z)
      have h3 : ¬ x = y := fun z => h z.symm
      simp only [h2, if_false, List.mem_cons, h3, false_or]
      split
      · unfold ixOf
        rw [List.idxOf_cons]
        have : (y == x) = false := by simpa using h
        simp only [this, cond_false]
        rw [show k + 1 + List.idxOf x u = k + (List.idxOf x u + 1) by omega]
      · rfl
theorem putG_num {f : α → Key} (hf : ∀ a b, f a = f b → a = b) {x : α} {u : List α} (h : x ∉ u) : putG (numD f u 0) (f x) (.int (u.length : Nat)) = numD f (u ++ [x]) 0 := by
  have e : lookK (numD f u 0) (f x) = none := by rw [lookK_num hf, if_neg h]
  unfold putG
  rw [lookK_any, e, Option.isSome_none, if_neg Bool.false_ne_true, numD_snoc, Nat.zero_add]
/-- .. with tuples as keys -/
def numX (f : α → D) : List α → Nat → List (D × D)
  | [], _ => []
  | x :: u, k => (f x, .int k) :: numX f u (k + 1)
theorem numX_len (f : α → D) : ∀ (u : List α) (k : Nat), (numX f u k).length = u.length
  | [], _ => rfl
  | _ :: u, k => by simp [numX, numX_len f u]
theorem numX_snoc (f : α → D) (x : α) : ∀ (u : List α) (k : Nat), numX f (u ++ [x]) k = numX f u k ++ [(f x, .int (k + u.length : Nat))]
  | [], k => by simp [numX]
  | y :: u, k => by
    rw [List.cons_append, numX, numX, numX_snoc f x u, List.cons_append, List.length_cons]
    rw [show k + 1 + u.length = k + (u.length + 1) by omega]
theorem lookX_cons {p : D × D} {ds : List (D × D)} {k : NestedKey} : lookX (p :: ds) k = if nkey p.1 = some k then some p.2 else lookX ds k := by
  unfold lookX
  rw [List.find?_cons]
  by_cases h : nkey p.1 = some k <;> simp [h]
theorem lookX_num {f : α → D} {g : α → NestedKey} (hg : ∀ a, nkey (f a) = some (g a)) (hf : ∀ a b, g a = g b → a = b) (x : α) : ∀ (u : List α) (k : Nat), lookX (numX f u k) (g x) = if x ∈ u then some (.int (k + ixOf u x : Nat)) else none
  | [], k => by simp [numX, lookX]
  | y :: u, k => by
    rw [numX, lookX_cons, lookX_num hg hf x u, hg]
    by_cases h : y = x
    · subst h
      simp [ixOf]
    · have h2 : ¬ some (g y) = some (g x) := fun z => h (hf _ _ (Option.some.inj z))
      have h3 : ¬ x = y := fun z => h z.symm
      simp only [h2, if_false, List.mem_cons, h3, false_or]
      split
      · unfold ixOf
        rw [List.idxOf_cons]
        have : (y == x) = false := by simpa using h
        simp only [this, cond_false]
        rw [show k + 1 + List.idxOf x u = k + (List.idxOf x u + 1) by omega]
      · rfl
end
theorem nkeys_map {α : Type} {f : α → D} {g : α → NestedKey} (h : ∀ a, nkey (f a) = some (g a)) : ∀ l : List α, nkeys (l.map f) = some (l.map g)
  | [] => rfl
  | x :: l => by
    rw [List.map_cons, nkeys, h x, nkeys_map h l]
    rfl
section
variable {X : Cx} {M : Mp} {ρ : En} {Q : DQ} {E : TEs} {pos : Pos}
/-- t.index(i) of ints -/
theorem VM.tindexI {ns : List Int} {k : Int} (hk : k ∈ ns) (h : Q (.int (ns.idxOf k : Nat)) M) : VM X "tuple.index" (.tup (ns.map D.int)) [.int k] M Q := by
  intro pins s σ H F v u vs us I R r1 p1 r2 p2
  cases p2 with
  | cons q p2 =>
    cases p2
    cases q
    cases r2 with
    | cons a1 r2 =>
      cases r2
      cases p1 with
      | tup hq hr =>
        obtain rfl := reps_ints hr
        cases r1
        obtain ⟨its, rv, ht, hz⟩ := I.tuple (R.sub.sqT hq)
        obtain ⟨t, rfl⟩ := a1
        exact PySem.SeqAt.tuple_index_ints ht (intsAre_of rv) hk ⟨.int (ns.idxOf k : Nat), H, F, M, _, I.tok _, ⟨_, rfl⟩, Stp.refl R, .int _, h⟩
/-- tuple(l): the tuple has no dict -/
theorem call_tuple_frz {X : Cx} : CallR X (.type "tuple") (fun xs H Q => ∃ p ys, xs = [.ref p] ∧ SqL X.K H p ys ∧ ∀ l o, H l = none → o.dict = none → o.cls = .type "tuple" → Q (.ref l) (upd H l (.frz o (.tup ys)))) := by
  intro pins s σ H xs us Q I r h
  obtain ⟨p, ys, rfl, hq, q⟩ := h
  obtain ⟨u, rfl, rx⟩ := vals1 r
  cases rx
  obtain ⟨its, r', pl, hz⟩ := I.list hq
  have hlen := r'.length
  refine call_tuple_list pl.isList (fun h' kp => ?_) (by have := sizeLine_eq; simp only [List.size_toArray] <;> omega)
  have I1 : Inv X pins σ H { s with heap := h' } := I.kept (t' := s.toks) kp
  have I2 : Inv X pins σ (upd H h'.objs.size (.frz { cls := .type "tuple", data := .seq its.toArray } (.tup ys))) { s with heap := h'.push { cls := .type "tuple", data := .seq its.toArray } } :=
    I1.laid (t' := s.toks) (fun b o e => Heap.get?_push_of_some _ e) (Nat.le_refl _) ⟨Heap.get?_push_size _ rfl, show ObjOk X.prog X.w _ _ _ (.tup ys) from ⟨hz, its, r', IsTup.new _ _⟩⟩
  exact ⟨.ref h'.objs.size, _, I2, rfl, q _ _ (I1.hok.fresh (Nat.le_refl _)) rfl rfl⟩
theorem VC.tupleN {xs : List D} (h : Q (.tun xs) M) : VC X (.type "tuple") [.lst xs] M Q :=
  .call call_tuple_frz fun H F vs R p => by
    cases p with
    | cons q p =>
      cases p
      cases q with
      | @lst _ ws _ s r =>
        refine ⟨_, ws, rfl, .inl (R.sub.rd s), fun l o hl hd hc => ?_⟩
        have t := Stp.new (o := .frz o (.tup ws)) R hl
        exact ⟨_, M, _, t, .tun upd_same hd hc (t.reps r), h⟩
/-- .. is a tuple -/
theorem Rep.soft {K : PySem.W.Frag} {F : Hp} {v : V} {ds : List D} (h : Rep K F v (.tun ds)) : Rep K F v (.tup ds) := by
  cases h with
  | tun h h1 h2 r => exact .tup (.inl (.inr ⟨_, h⟩)) r
theorem WE.soft {e : Expr} (h : WE X e ρ M fun d M1 => ∃ ds, d = .tun ds ∧ Q (.tup ds) M1) : WE X e ρ M Q :=
  ⟨fun pins s σ H F I S => thn (h.run pins s σ H F I S) fun u s1 ⟨v, H1, F1, M1, d, I1, r1, t1, p1, ds, e, q⟩ => by
    subst e
    exact ⟨v, H1, F1, M1, _, I1, r1, t1, p1.soft, q⟩⟩
theorem TyIs.tun {xs : List D} : TyIs X M (.tun xs) "tuple" := fun pins s σ H F v u I R r p => by
  cases p with
  | tun h h1 h2 hr =>
    cases r
    obtain ⟨ho, _⟩ := I.hok _ _ (R.sub _ _ h)
    exact ⟨⟨_, ho, h2⟩, fun a e => by cases e; exact ⟨_, ho, h1⟩⟩
theorem VM.soft {id : String} {ds xs : List D} (h : VM X id (.tup ds) xs M Q) : VM X id (.tun ds) xs M Q := fun pins s σ H F v u vs us I R r1 p1 r2 p2 => h pins s σ H F v u vs us I R r1 p1.soft r2 p2
theorem WS.setN {n : Str} (i : Nat) {e : Expr} {pos' : Pos} (hN : X.N.Nodup) (h : WE X e ρ M fun x M1 => E.nx (ρ.set i (some x)) M1) (hi : X.N[i]? = some n := by rfl) (hx : Loc X.env.scope n := by first | exact .inl rfl | exact .inr rfl)
    (hs : swapsWith e (some (.Name n pos')) pos.line X.env = pure false := by rfl) (hf : X.fn n = true ∨ X.env.scope.names.lookup n = some .local := by first | exact .inl rfl | exact .inr rfl) : WS X (.Assign [.Name n pos'] e pos) ρ M E := .set i h hN hi hx hs hf
theorem WG.nameN {n : Str} {x : D} {R : En → Mp → Prop} (i : Nat) (hN : X.N.Nodup) (h : R (ρ.set i (some x)) M) (hi : X.N[i]? = some n := by rfl) (hx : Loc X.env.scope n := by first | exact .inl rfl | exact .inr rfl)
    (hf : X.fn n = true ∨ X.env.scope.names.lookup n = some .local := by first | exact .inl rfl | exact .inr rfl) : WG X (.Name n pos) x ρ M R := .name i h hN hi hx hf
/-- what is written no more, and asked no more -/
theorem Stp.drop {K : PySem.W.Frag} {H F : Hp} {M : Mp} (p : Addr) (r : Good K H F M) : Stp K H F M H F (mdel M p) := by
  refine ⟨fun b o h n => ⟨h, ?_⟩, Sub.refl F, fun b o h => .inl h, r.sub, fun b m h => ?_, fun a m h => ?_⟩
  · unfold mdel; split
    · rfl
    · exact n
  · unfold mdel at h; split at h
    · cases h
    · exact r.dis b m h
  · unfold mdel at h; split at h
    · cases h
    · exact r.real a m h
theorem WE.drop {e : Expr} (p : Addr) (h : WE X e ρ M fun d M1 => Q d (mdel M1 p)) : WE X e ρ M Q :=
  ⟨fun pins s σ H F I S => thn (h.run pins s σ H F I S) fun u s1 ⟨v, H1, F1, M1, d, I1, r1, t1, p1, q⟩ => ⟨v, H1, F1, _, d, I1, r1, t1.trans (Stp.drop p t1.good), p1, q⟩⟩
/-- over a list or a tuple, whichever it is -/
theorem WI.sq {tg e : Expr} {R : List D → Mp → Prop} {d : D} {xs : List D} (hd : d = .lst xs ∨ d = .tup xs) (h : WE X e ρ M fun d' M1 => d' = d ∧ R xs M1) : WI X tg e ρ M R := by
  rcases hd with rfl | rfl
  · exact WI.list (h.imp fun d' M1 ⟨e, q⟩ => ⟨xs, e, q⟩)
  · exact WI.tup (h.imp fun d' M1 ⟨e, q⟩ => ⟨xs, e, q⟩)
/-- a, b = x, y -/
theorem WS.par {x y : Str} {a b : Expr} {px py pt : Pos} {kt k2 pt2} (i j : Nat) (hc : X.calm = true) (hN : X.N.Nodup) (h : WA X [a, b] ρ M fun xs M1 => ∃ v w, xs = [v, w] ∧ E.nx ((ρ.set i (some v)).set j (some w)) M1)
    (hi : X.N[i]? = some x := by rfl) (hj : X.N[j]? = some y := by rfl) (hij : i ≠ j := by decide) (hx : X.env.scope.names.lookup x = some .local := by rfl) (hy : X.env.scope.names.lookup y = some .local := by rfl)
    (hw : swappedStores [.Tuple [.Name x px, .Name y py] kt pt] (.Tuple [a, b] k2 pt2) X.env = pure (some [x, y]) := by rfl)
    (hs : swapsWithSole [.Tuple [.Name x px, .Name y py] kt pt] (.Tuple [a, b] k2 pt2) pos.line X.env = pure false := by rfl) :
    WS X (.Assign [.Tuple [.Name x px, .Name y py] kt pt] (.Tuple [a, b] k2 pt2) pos) ρ M E :=
  .ps (ps_par hc hN hi hj hij hx hy lTA_ok hw hs) fun σ H F S => ⟨F, M, ρ, _, S, h, fun vs H' F' M' ds t rp ⟨v, w, e, q⟩ => by
    subst e
    cases rp with
    | cons r1 rp =>
      cases rp with
      | cons r2 rp =>
        cases rp
        exact ⟨_, _, rfl, F', M', _, t, ((S.step t).set i r1).set j r2, q⟩⟩
/-- a, b, c = x, y, z -/
theorem WS.par3 {x y z : Str} {a b c : Expr} {px py pz pt : Pos} {kt k2 pt2} (i j l : Nat) (hc : X.calm = true) (hN : X.N.Nodup) (h : WA X [a, b, c] ρ M fun xs M1 => ∃ u v w, xs = [u, v, w] ∧ E.nx (((ρ.set i (some u)).set j (some v)).set l (some w)) M1)
    (hi : X.N[i]? = some x := by rfl) (hj : X.N[j]? = some y := by rfl) (hl : X.N[l]? = some z := by rfl) (hij : i ≠ j := by decide) (hil : i ≠ l := by decide) (hjl : j ≠ l := by decide)
    (hx : X.env.scope.names.lookup x = some .local := by rfl) (hy : X.env.scope.names.lookup y = some .local := by rfl) (hz : X.env.scope.names.lookup z = some .local := by rfl)
    (hw : swappedStores [.Tuple [.Name x px, .Name y py, .Name z pz] kt pt] (.Tuple [a, b, c] k2 pt2) X.env = pure (some [x, y, z]) := by rfl)
    (hs : swapsWithSole [.Tuple [.Name x px, .Name y py, .Name z pz] kt pt] (.Tuple [a, b, c] k2 pt2) pos.line X.env = pure false := by rfl) :
    WS X (.Assign [.Tuple [.Name x px, .Name y py, .Name z pz] kt pt] (.Tuple [a, b, c] k2 pt2) pos) ρ M E :=
  .ps (ps_par3 hc hN hi hj hl hij hil hjl hx hy hz lTA_ok hw hs) fun σ H F S => ⟨F, M, ρ, _, S, h, fun vs H' F' M' ds t rp ⟨u, v, w, e, q⟩ => by
    subst e
    cases rp with
    | cons r1 rp =>
      cases rp with
      | cons r2 rp =>
        cases rp with
        | cons r3 rp =>
          cases rp
          exact ⟨_, _, _, rfl, F', M', _, t, (((S.step t).set i r1).set j r2).set l r3, q⟩⟩
end
end TL
end
section
/-! TKm: kinds, in plain Lean. -/
namespace TL
section
variable {α β : Type} [DecidableEq α] [DecidableEq β]
theorem ixOf_cons (y x : α) (u : List α) : ixOf (y :: u) x = if y = x then 0 else ixOf u x + 1 := by
  unfold ixOf
  rw [List.idxOf_cons]
  have : (y == x) = decide (y = x) := rfl
  rw [this]
  by_cases h : y = x <;> simp [h]
theorem ixOf_lt {x : α} : ∀ {u : List α}, x ∈ u → ixOf u x < u.length
  | y :: u, h => by
    rw [ixOf_cons]
    split
    · simp
    · rename_i hn
      have := ixOf_lt (u := u) (x := x) ((List.mem_cons.mp h).resolve_left fun z => hn z.symm)
      simp; omega
theorem ixOf_get {x : α} : ∀ {u : List α}, x ∈ u → u[ixOf u x]? = some x
  | y :: u, h => by
    rw [ixOf_cons]
    split
    · rename_i e; simp [e]
    · rename_i hn
      have := ixOf_get (u := u) (x := x) ((List.mem_cons.mp h).resolve_left fun z => hn z.symm)
      simpa using this
theorem ixOf_first {x : α} : ∀ {u : List α} {j : Nat}, j < ixOf u x → u[j]? ≠ some x
  | [], j, h => by simp
  | y :: u, j, h => by
    rw [ixOf_cons] at h
    split at h
    · omega
    · rename_i hn
      cases j with
      | zero => simp [hn]
      | succ j => simpa using ixOf_first (u := u) (x := x) (j := j) (by omega)
theorem ixOf_at : ∀ {u : List α} {k : Nat} {x : α}, u.Nodup → u[k]? = some x → ixOf u x = k
  | [], k, x, _, h => by simp at h
  | y :: u, 0, x, _, h => by simp at h; rw [ixOf_cons, if_pos h]
  | y :: u, k + 1, x, hn, h => by
    have h' : u[k]? = some x := by simpa using h
    have hx : x ∈ u := List.mem_of_getElem? h'
    obtain ⟨h1, h2⟩ := List.nodup_cons.mp hn
    have hne : ¬ y = x := fun e => h1 (by rw [e]; exact hx)
    rw [ixOf_cons, if_neg hne, ixOf_at h2 h']
theorem ixOf_inj {u : List α} {x y : α} (hx : x ∈ u) (hy : y ∈ u) (h : ixOf u x = ixOf u y) : x = y := by
  have h1 := ixOf_get hx
  rw [h, ixOf_get hy] at h1
  exact (Option.some.inj h1).symm
theorem uniq_map_on {f : α → β} : ∀ {l acc : List α}, (∀ a b, a ∈ acc ∨ a ∈ l → b ∈ acc ∨ b ∈ l → f a = f b → a = b) → uniq (acc.map f) (l.map f) = (uniq acc l).map f
  | [], acc, _ => rfl
  | k :: l, acc, hf => by
    have e : (if f k ∈ acc.map f then acc.map f else acc.map f ++ [f k]) = (if k ∈ acc then acc else acc ++ [k]).map f := by
      by_cases h : k ∈ acc
      · rw [if_pos h, if_pos (List.mem_map_of_mem h)]
      · rw [if_neg h, if_neg (fun z => h (by
          obtain ⟨b, hb, e⟩ := List.mem_map.mp z
          rw [← hf b k (.inl hb) (.inr (List.mem_cons_self ..)) e]; exact hb)), List.map_append]; rfl
    show uniq _ (l.map f) = _
    rw [e]
    refine uniq_map_on (l := l) (acc := if k ∈ acc then acc else acc ++ [k]) fun a b ha hb => hf a b ?_ ?_
    · split at ha
      · rcases ha with h | h
        · exact .inl h
        · exact .inr (List.mem_cons_of_mem _ h)
      · simp only [List.mem_append, List.mem_singleton] at ha
        simp only [List.mem_cons]
        rcases ha with (h | h) | h
        · exact .inl h
        · exact .inr (.inl h)
        · exact .inr (.inr h)
    · split at hb
      · rcases hb with h | h
        · exact .inl h
        · exact .inr (List.mem_cons_of_mem _ h)
      · simp only [List.mem_append, List.mem_singleton] at hb
        simp only [List.mem_cons]
        rcases hb with (h | h) | h
        · exact .inl h
        · exact .inr (.inl h)
        · exact .inr (.inr h)
theorem mem_u {l : List α} {x : α} : x ∈ uniq [] l ↔ x ∈ l := by rw [mem_uniq]; simp
theorem nodup_u (l : List α) : (uniq [] l).Nodup := nodup_uniq List.nodup_nil
theorem map_ix {u : List α} (h : u.Nodup) : (u.map fun x => ((ixOf u x : Nat) : Int)) = (List.range u.length).map fun (k : Nat) => (k : Int) := by
  refine List.ext_getElem (by simp) fun i h1 h2 => ?_
  have hi : i < u.length := by simpa using h1
  simp only [List.getElem_map, List.getElem_range]
  rw [ixOf_at h (List.getElem?_eq_getElem hi)]
theorem kinds_uniq (l : List α) : uniq [] (kindsOf l) = (List.range (uniq [] l).length).map fun (k : Nat) => (k : Int) := by
  unfold kindsOf
  rw [show ([] : List Int) = ([] : List α).map (fun x => ((ixOf (uniq [] l) x : Nat) : Int)) from rfl, uniq_map_on]
  · exact map_ix (nodup_u l)
  · intro a b ha hb h
    have ha' : a ∈ uniq [] l := mem_u.mpr (ha.resolve_left (by simp))
    have hb' : b ∈ uniq [] l := mem_u.mpr (hb.resolve_left (by simp))
    exact ixOf_inj ha' hb' (by exact_mod_cast h)
theorem kinds_ulen (l : List α) : (uniq [] (kindsOf l)).length = (uniq [] l).length := by rw [kinds_uniq]; simp
theorem kinds_mem {l : List α} {k : Nat} (h : k < (uniq [] l).length) : (k : Int) ∈ kindsOf l := by
  have : (k : Int) ∈ uniq [] (kindsOf l) := by
    rw [kinds_uniq]
    exact List.mem_map.mpr ⟨k, List.mem_range.mpr h, rfl⟩
  exact mem_u.mp this
/-- the items at the first places of the kinds are the kinds -/
theorem firsts_items (l : List α) : ((List.range (uniq [] l).length).map fun (k : Nat) => l[ixOf (kindsOf l) (k : Int)]?) = (uniq [] l).map some := by
  refine List.ext_getElem (by simp) fun i h1 h2 => ?_
  have hi : i < (uniq [] l).length := by simpa using h1
  simp only [List.getElem_map, List.getElem_range]
  have h3 := ixOf_get (kinds_mem hi)
  unfold kindsOf at h3
  rw [List.getElem?_map] at h3
  obtain ⟨x, hx, ex⟩ := Option.map_eq_some_iff.mp h3
  have hxl : x ∈ l := List.mem_of_getElem? hx
  have e1 : ixOf (uniq [] l) x = i := by exact_mod_cast ex
  have e2 := ixOf_get (mem_u.mpr hxl)
  rw [e1, List.getElem?_eq_getElem hi] at e2
  rw [show kindsOf l = l.map (fun x => ((ixOf (uniq [] l) x : Nat) : Int)) from rfl, hx, ← e2]
end
end TL
end
section
set_option maxRecDepth 100000
/-! TDk: the deck of drawn numbers: a dict that holds a list and two ints. -/
namespace TL
open PySem PySem.Spec PyProof.Rows L2
section
variable {X : Cx} {M : Mp} {Q : DQ} {y : D} {a : Addr} {xs : List D}
theorem VO.neDM (hm : M a = some (.lst xs)) (hu : X.A.units + 64 < cLine) (hx : shp (.lst xs) = true) (hy : shp y = true) (h : Q (.bl (!TL.eqD (.lst xs) y)) M) : VO X (compareOp .NotEq) (.ref a) y M Q :=
  .op (op_neD hu) fun H F v1 v2 R r1 r2 => by
    simp only [shp, Bool.and_eq_true] at hx hy
    cases r1
    obtain ⟨vs, hv, r⟩ := R.lst hm
    exact ⟨.list (pys xs), _, .lst (.inl (.of hv)) (dp_monos R.sub (r.dp (by simpa [isPy] using hx.1))), dp_mono R.sub (r2.dp hy.1), by simpa [py] using hx.2, hy.2, F, M, _, Stp.refl R, .bl _, by simpa [TL.eqD, py] using h⟩
theorem VO.eqDM (hm : M a = some (.lst xs)) (hu : X.A.units + 64 < cLine) (hx : shp (.lst xs) = true) (hy : shp y = true) (h : Q (.bl (TL.eqD (.lst xs) y)) M) : VO X (compareOp .Eq) (.ref a) y M Q :=
  .op (op_eqD hu) fun H F v1 v2 R r1 r2 => by
    simp only [shp, Bool.and_eq_true] at hx hy
    cases r1
    obtain ⟨vs, hv, r⟩ := R.lst hm
    exact ⟨.list (pys xs), _, .lst (.inl (.of hv)) (dp_monos R.sub (r.dp (by simpa [isPy] using hx.1))), dp_mono R.sub (r2.dp hy.1), by simpa [py] using hx.2, hy.2, F, M, _, Stp.refl R, .bl _, by simpa [TL.eqD, py] using h⟩
end
section
variable {X : Cx} {M : Mp} {Q : DQ} {i j : Int}
/-- a rest, told by its bounds -/
theorem VO.modG (h1 : 0 < j) (h : ∀ r, 0 ≤ r → r < j → Q (.int r) M) : VO X (binaryOp .Mod) (.int i) (.int j) M Q := .mod h1 (h _ (Int.emod_nonneg _ (by omega)) (Int.emod_lt_of_pos _ h1))
theorem VO.mulS (h1 : -(2 ^ 64) < i) (h2 : i < 2 ^ 64) (h : Q (.int (i * j)) M) : VO X (binaryOp .Mult) (.int i) (.int j) M Q := .mul (.inl ⟨h1, h2⟩) h
theorem VO.mulR (h1 : -(2 ^ 64) < j) (h2 : j < 2 ^ 64) (h : Q (.int (i * j)) M) : VO X (binaryOp .Mult) (.int i) (.int j) M Q := .mul (.inr ⟨h1, h2⟩) h
end
/-- a def called by keywords -/
theorem kwB {K : PySem.W.Frag} {x qual : Str} {params : Arguments} {body : List Stmt} {scope : Scope} {f : Addr} {fd : FuncData} {ps ks : List Str} {b : Bool} (F : FunD K x qual params body scope [] [] f fd)
    (h : ∀ (kV doc pm : Value) (an : Option Addr) (cdv ct : Value) (ws : List Value), ws.length = ks.length → bindArgs (PySem.W.fnOf x qual params body scope .none kV doc pm an cdv ct) ⟨[], ks.zip ws⟩ = pure (ps.zip (turn b ws))) : KwB fd ps ks b := by
  intro s ws hl
  obtain ⟨oc, od, dV, kV, doc, pm, an, cdv, ct, osl, rfl, lk, hcd, hD, hK⟩ := F.ex
  rcases hD with ⟨_, rfl⟩ | ⟨e, _⟩
  · exact .of_eq (h kV doc pm an cdv ct ws hl)
  · exact absurd rfl e
/-- a written key -/
abbrev sk (s : String) : Key := .inr ⟨(lit s).toArray⟩
theorem sk_str (s : String) : D.str (lit s) = keyV (sk s) := (keyV_str (lit s)).symm
structure Dk where
  cells : List Int
  mixed : Int
  draws : Nat
/-- at most 63 cells, at most n draws -/
structure DkN (k : Dk) (n : Nat) : Prop where
  c : k.cells.length ≤ 63
  d : k.draws ≤ n
theorem DkN.mono {k : Dk} {n m : Nat} (h : DkN k n) (l : n ≤ m) : DkN k m := ⟨h.c, Nat.le_trans h.d l⟩
def dkO (c : Addr) (k : Dk) : List (Key × D) := [(sk "cells", .ref c), (sk "mixed", .int k.mixed), (sk "draws", .int k.draws)]
/-- the deck at a, its cells at c, over M -/
def dkM (a c : Addr) (k : Dk) (M : Mp) : Mp := mset (mset M c (.lst (k.cells.map D.int))) a (.dic (dkO c k))
theorem sk1 : (sk "cells" = sk "draws") = False := by simp only [eq_iff_iff, iff_false]; decide +kernel
theorem sk2 : (sk "mixed" = sk "draws") = False := by simp only [eq_iff_iff, iff_false]; decide +kernel
theorem sk3 : (sk "cells" = sk "mixed") = False := by simp only [eq_iff_iff, iff_false]; decide +kernel
section
variable {a c p : Addr} {k : Dk} {M : Mp}
theorem dk_look1 : lookK (dkO c k) (sk "cells") = some (.ref c) := by unfold dkO; rw [lookK_cons, if_pos rfl]
theorem dk_look2 : lookK (dkO c k) (sk "mixed") = some (.int k.mixed) := by unfold dkO; simp only [lookK_cons, sk3, if_false]; simp
theorem dk_look3 : lookK (dkO c k) (sk "draws") = some (.int k.draws) := by unfold dkO; simp only [lookK_cons, sk1, sk2, if_false]; simp
theorem dk_put {n : Nat} : putG (dkO c k) (sk "draws") (.int n) = dkO c { k with draws := n } := by
  have h1 : ¬ lit "cells" = lit "draws" := by decide +kernel
  have h2 : ¬ lit "mixed" = lit "draws" := by decide +kernel
  unfold putG dkO
  simp [h1, h2]
theorem dk_at : dkM a c k M a = some (.dic (dkO c k)) := mset_same
theorem dk_cells (h : c ≠ a) : dkM a c k M c = some (.lst (k.cells.map D.int)) := by unfold dkM; rw [mset_ne h, mset_same]
theorem dk_else (h1 : p ≠ a) (h2 : p ≠ c) : dkM a c k M p = M p := by unfold dkM; rw [mset_ne h1, mset_ne h2]
theorem dk_setA {k' : Dk} (e : k'.cells = k.cells) : mset (dkM a c k M) a (.dic (dkO c k')) = dkM a c k' M := by unfold dkM; rw [mset_mset, e]
theorem mset_comm {q r : Addr} {m n : MO} (h : q ≠ r) : mset (mset M q m) r n = mset (mset M r n) q m := by
  funext b
  unfold mset
  by_cases h1 : b = q
  · subst h1; simp [h]
  · by_cases h2 : b = r
    · subst h2; simp [h1]
    · simp [h1, h2]
theorem mdel_mset_ne {q r : Addr} {m : MO} (h : q ≠ r) : mdel (mset M q m) r = mset (mdel M r) q m := by
  funext b
  unfold mset mdel
  by_cases h1 : b = q
  · subst h1; simp [h]
  · by_cases h2 : b = r
    · subst h2; simp [h1]
    · simp [h1, h2]
theorem dk_setC (h : c ≠ a) {xs : List Int} : mset (dkM a c k M) c (.lst (xs.map D.int)) = dkM a c { k with cells := xs } M := by
  unfold dkM
  rw [mset_comm (Ne.symm h), mset_mset]
  rfl
theorem dk_none (h : dkM a c k M p = none) : p ≠ a ∧ p ≠ c ∧ M p = none := by
  have h1 : p ≠ a := fun e => by rw [e, dk_at] at h; cases h
  have h2 : p ≠ c := fun e => by
    subst e
    rw [dk_cells h1] at h; cases h
  rw [dk_else h1 h2] at h
  exact ⟨h1, h2, h⟩
/-- other things are written below the deck -/
theorem dk_mset (h1 : p ≠ a) (h2 : p ≠ c) {m : MO} : mset (dkM a c k M) p m = dkM a c k (mset M p m) := by
  unfold dkM
  rw [mset_comm (Ne.symm h1), mset_comm (Ne.symm h2)]
theorem dk_mdel (h1 : p ≠ a) (h2 : p ≠ c) : mdel (dkM a c k M) p = dkM a c k (mdel M p) := by
  unfold dkM
  rw [mdel_mset_ne (Ne.symm h1), mdel_mset_ne (Ne.symm h2)]
end
/-- what may be picked from -/
inductive Pk (a l : Addr) (M : Mp) : D → List D → Prop
  | lst (ds : List D) : Pk a l M (.lst ds) ds
  | tup (ds : List D) : Pk a l M (.tup ds) ds
  | str (x : List Nat) : Pk a l M (.str x) (x.map fun c => .str [c])
  | ref {p : Addr} {ds : List D} (h1 : p ≠ a) (h2 : p ≠ l) (h : M p = some (.lst ds)) : Pk a l M (.ref p) ds
theorem WDs.cons {X : Cx} {k v : Expr} {ks : List (Option Expr)} {vs : List Expr} {ρ : En} {M : Mp} {Q : List (D × D) → Mp → Prop} (h : WE X k ρ M fun x M1 => WE X v ρ M1 fun y M2 => WDs X ks vs ρ M2 fun ps M3 => Q ((x, y) :: ps) M3) : WDs X (some k :: ks) (v :: vs) ρ M Q := h
theorem WDs.nil {X : Cx} {ρ : En} {M : Mp} {Q : List (D × D) → Mp → Prop} (h : Q [] M) : WDs X [] [] ρ M Q := h
theorem merge_app {α : Type} : ∀ {kds acc : List (Key × α)}, ((acc ++ kds).map (·.1)).Nodup → mergeG acc kds = acc ++ kds
  | [], acc, _ => by rw [List.append_nil]; rfl
  | p :: kds, acc, h => by
    have hn : lookK acc p.1 = none := by
      cases e : lookK acc p.1 with
      | none => rfl
      | some u =>
        unfold lookK at e
        obtain ⟨q, hq, _⟩ := Option.map_eq_some_iff.mp e
        have h1 := List.mem_of_find?_eq_some hq
        have h2 := List.find?_some hq
        rw [List.map_append, List.nodup_append] at h
        exact absurd (of_decide_eq_true h2) (h.2.2 q.1 (List.mem_map_of_mem h1) p.1 (by simp))
    show mergeG (putG acc p.1 p.2) kds = _
    have e : putG acc p.1 p.2 = acc ++ [p] := by
      unfold putG
      rw [lookK_any, hn, Option.isSome_none, if_neg Bool.false_ne_true]
    rw [e, merge_app (by rwa [List.append_assoc]), List.append_assoc]
    rfl
theorem merge_nodup {α : Type} {kds : List (Key × α)} (h : (kds.map (·.1)).Nodup) : mergeG [] kds = kds := merge_app (by rwa [List.nil_append])
theorem nodup_len : ∀ (n : Nat) (l : List Int), l.Nodup → (∀ x ∈ l, 0 ≤ x ∧ x < n) → l.length ≤ n
  | 0, l, _, h => by
    cases l with
    | nil => simp
    | cons x l => have := h x (List.mem_cons_self ..); omega
  | n + 1, l, hn, h => by
    have h1 := nodup_len n (l.erase (n : Int)) (hn.erase _) fun x hx => by
      have h2 := (hn.mem_erase_iff).mp hx
      have := h x h2.2
      have := h2.1
      omega
    by_cases hm : (n : Int) ∈ l
    · rw [List.length_erase_of_mem hm] at h1; omega
    · rw [List.erase_of_not_mem hm] at h1; omega
theorem isS_int1 (i : Int) : isS (.int i) = true := by simp [isS]
theorem areS_ints (ns : List Int) : areS (ns.map D.int) = true := areS_of fun d hd => by
  obtain ⟨i, _, rfl⟩ := List.mem_map.mp hd
  exact isS_int1 i
theorem deps_ints (ns : List Int) : deps (ns.map D.int) = 0 := Nat.le_zero.mp (deps_le fun d hd => by
  obtain ⟨i, _, rfl⟩ := List.mem_map.mp hd
  exact Nat.le_refl 0)
theorem shp_lints (ns : List Int) : shp (.lst (ns.map D.int)) = true := shp_of (by simpa [isS] using areS_ints ns) (by simp [dep, deps_ints])
theorem shp_nil : shp (.lst []) = true := shp_of (by simp [isS, areS]) (by simp [dep, deps])
theorem eqD_lnil (xs : List D) : TL.eqD (.lst xs) (.lst []) = decide (xs = []) := by
  cases xs <;> simp [TL.eqD, py, pys, PyData.eqv, PyData.eqvAll]
end TL
end
section
set_option maxRecDepth 100000
/-! TRp: repr of data that is not too long. -/
namespace TL
open PySem PySem.Spec PyProof.Rows L2
/-- data of at most n signs and bits, at most p deep -/
structure RepOk (n p : Nat) (d : D) : Prop where
  r : isR d = true
  s : (rpy d).leavesShort 600 = true
  w : (rpy d).weight ≤ n
  p : (rpy d).depth ≤ p
theorem RepOk.mono {n m p q : Nat} {d : D} (h : RepOk n p d) (l : n ≤ m) (k : p ≤ q) : RepOk m q d := ⟨h.r, h.s, Nat.le_trans h.w l, Nat.le_trans h.p k⟩
theorem RepOk.len {n p : Nat} {d : D} (h : RepOk n p d) (hn : n ≤ 20000) : (shN d).length ≤ sizeLine := by
  have h1 := PyData.shown_le 600 (by decide) (rpy d) h.s
  have h2 := h.w
  have h3 : (shN d).length = (rpy d).shown.length := by simp [shN, Str.length]
  have hs := sizeLine_eq
  have : (600 + 2) * (rpy d).weight ≤ 602 * 20000 := Nat.mul_le_mul (Nat.le_refl _) (by omega)
  omega
theorem VC.reprO {X : Cx} {M : Mp} {Q : DQ} {d : D} {k n p : Nat} (lo : Lo X k) (hs : ∃ o, X.base.get? sysModules = some o) (o : RepOk n p d) (hn : n ≤ 20000) (hp : p ≤ 60) (h : Q (.str (shN d)) M) : VC X (.builtin "repr") [d] M Q :=
  .repr lo hs o.r (o.len hn) (Nat.le_trans o.p hp) h
theorem RepOk.str {x : List Nat} (h : ∀ c ∈ x, c < 16 ^ 8) : RepOk x.length 0 (.str x) :=
  ⟨by simp [isR], by simp only [rpy, PyData.leavesShort, List.all_toArray, List.all_eq_true, decide_eq_true_eq]; simpa using h, by simp [rpy, PyData.weight], by simp [rpy, PyData.depth]⟩
theorem RepOk.bl (b : Bool) : RepOk 0 0 (.bl b) := ⟨by simp [isR], by simp [rpy, PyData.leavesShort], by simp [rpy, PyData.weight], by simp [rpy, PyData.depth]⟩
theorem RepOk.non : RepOk 0 0 .non := ⟨by simp [isR], by simp [rpy, PyData.leavesShort], by simp [rpy, PyData.weight], by simp [rpy, PyData.depth]⟩
theorem RepOk.all {n p : Nat} : ∀ {ds : List D}, (∀ d ∈ ds, RepOk n p d) → areR ds = true ∧ PyData.leavesShortAll 600 (rpys ds) = true ∧ PyData.weightAll (rpys ds) ≤ ds.length * (n + 1) ∧ PyData.depthAll (rpys ds) ≤ p
  | [], _ => by simp [areR, rpys, PyData.leavesShortAll, PyData.weightAll, PyData.depthAll]
  | d :: ds, h => by
    obtain ⟨a1, a2, a3, a4⟩ := RepOk.all fun x hx => h x (List.mem_cons_of_mem d hx)
    have hd := h d (List.mem_cons_self ..)
    have h3 := hd.w
    have h4 := hd.p
    refine ⟨by simp [areR, hd.r, a1], by simp [rpys, PyData.leavesShortAll, hd.s, a2], ?_, ?_⟩
    · simp only [rpys, PyData.weightAll, List.length_cons, Nat.add_mul, Nat.one_mul]; omega
    · simp only [rpys, PyData.depthAll]; omega
theorem RepOk.lst {n p : Nat} {ds : List D} (h : ∀ d ∈ ds, RepOk n p d) : RepOk (ds.length * (n + 1)) (p + 1) (.lst ds) := by
  obtain ⟨a1, a2, a3, a4⟩ := RepOk.all h
  exact ⟨by simpa [isR] using a1, by simpa [rpy, PyData.leavesShort] using a2, by simpa [rpy, PyData.weight] using a3, by simp only [rpy, PyData.depth]; omega⟩
theorem RepOk.tup {n p : Nat} {ds : List D} (h : ∀ d ∈ ds, RepOk n p d) : RepOk (ds.length * (n + 1)) (p + 1) (.tup ds) := by
  obtain ⟨a1, a2, a3, a4⟩ := RepOk.all h
  exact ⟨by simpa [isR] using a1, by simpa [rpy, PyData.leavesShort] using a2, by simpa [rpy, PyData.weight] using a3, by simp only [rpy, PyData.depth]; omega⟩
section
variable {X : Cx} {M : Mp} {ρ : En} {Q : DQ} {pos : Pos}
/-- -e -/
theorem WE.neg {a : Expr} (h : WE X a ρ M fun d M1 => ∃ i : Int, d = .int i ∧ Q (.int (-i)) M1) : WE X (.UnaryOp .USub a pos) ρ M Q :=
  .pe (pe_un un_neg lTE_ok) fun σ H F S => ⟨F, M, ρ, _, S, h, fun v H1 ⟨F1, M1, d, t, rp, i, e, q⟩ => by
    subst e
    cases rp
    exact ⟨i, rfl, F1, M1, _, t, .int _, q⟩⟩
end
section
variable {α : Type}
theorem cut_take (xs : List α) (n : Nat) : TL.cutD xs none (some (n : Int)) = xs.take n := by
  unfold TL.cutD
  rw [HT.sIx_none, HT.sIx_nat, List.drop_zero, Nat.sub_zero]
  by_cases h : n ≤ xs.length
  · rw [Nat.min_eq_left h]
  · rw [Nat.min_eq_right (by omega), List.take_of_length_le (Nat.le_refl _), List.take_of_length_le (by omega)]
theorem cut_drop (xs : List α) (n : Nat) : TL.cutD xs (some (n : Int)) none = xs.drop n := by
  unfold TL.cutD
  rw [HT.sIx_none, HT.sIx_nat]
  by_cases h : n ≤ xs.length
  · rw [Nat.min_eq_left h, List.take_of_length_le (by simp)]
  · rw [Nat.min_eq_right (by omega), List.drop_of_length_le (Nat.le_refl _), List.drop_of_length_le (by omega), List.take_nil]
theorem cut_last (xs : List α) : TL.cutD xs none (some (-1)) = xs.dropLast := by
  unfold TL.cutD
  rw [HT.sIx_none, List.drop_zero, Nat.sub_zero, List.dropLast_eq_take]
  congr 1
  have : HT.sIx xs.length xs.length (some (-1)) = ((-1 : Int) + (xs.length : Int)).toNat := by
    unfold HT.sIx
    simp
  rw [this]
  omega
end
end TL
end
section
set_option maxRecDepth 100000
set_option maxHeartbeats 0
/-! TCl: comprehensions of several clauses. -/
namespace TL
open PySem PySem.Spec PyProof.Rows L2
/-- a comprehension's kind: what each turn gives -/
inductive CK where
  | lst (elt : Expr) | dic (kx vx : Expr)
def CK.ex (k : CK) (gens : List Comprehension) (scope : Scope) (pos : Pos) : Expr := match k with
  | .lst elt => .ListComp elt gens scope pos
  | .dic kx vx => .DictComp kx vx gens scope pos
def CK.emit (k : CK) (D : Addr) (env : Env) : Sem Unit := match k with
  | .lst elt => (do let _ ← call (.builtin "list.append") [.ref D, ← eval elt env])
  | .dic kx vx => (do
      let kv ← eval kx env
      let vv ← holding [kv] (eval vx env)
      standAt { kx.pos with endLine := vx.pos.endLine, endCol := vx.pos.endCol }
      holding [kv, vv] (dictSet D kv vv))
/-- what a turn does behind its tests: the next clause, or the element -/
def CK.rest (k : CK) (gens : List Comprehension) (scope : Scope) (pos : Pos) (d : Nat) (D : Addr) (env : Env) : Option (Expr × Expr × List Expr) → Sem Unit
  | some (_, iter, _) => (do
      let x ← eval iter env
      standAt iter.pos
      let x ← foldedSetIterable iter env x
      let _ ← runOwn (.compStart (k.ex gens scope pos) d (← holding [x] (pyIter x)) (.ref D) env) env)
  | none => k.emit D env
def clause (x : Expr × Expr × List Expr) : Comprehension := ⟨x.1, x.2.1, x.2.2, 0⟩
theorem turn_at {k : CK} {gens : List Comprehension} {scope : Scope} {pos : Pos} {d : Nat} {tg iter : Expr} {ifs : List Expr} {D : Addr} {it : Value} {env : Env} {nx : Option (Expr × Expr × List Expr)} (hg : gens[d]? = some ⟨tg, iter, ifs, 0⟩) (hn : gens[d + 1]? = nx.map clause) :
    compTurn (k.ex gens scope pos) d it (.ref D) env = (do
      standAt iter.pos
      match ← pyNext it with
      | none => pure (.done .next)
      | some v =>
        letOwnedTupleGo tg it v
        assign tg env v
        let mut ok := true
        for c in ifs do
          if ok then ok ← isTrue c env (eval c env)
        if ok then
          k.rest gens scope pos (d + 1) D env nx
        again (.compLoop (k.ex gens scope pos) d it (.ref D) env)) := by
  cases k with
  | lst elt =>
    unfold compTurn CK.ex
    simp only [hg]
    cases nx with
    | none => simp only [hn, Option.map_none]; rfl
    | some x => simp only [hn, Option.map_some, clause, CK.rest, bind_assoc, pure_bind]; rfl
  | dic kx vx =>
    unfold compTurn CK.ex
    simp only [hg]
    cases nx with
    | none => simp only [hn, Option.map_none]; rfl
    | some x => simp only [hn, Option.map_some, clause, CK.rest, bind_assoc, pure_bind]; rfl
section
variable {P : Program} {w : World} {A : Around} {R : Result → Shared → Prop} {s : Shared} {k : CK} {gens : List Comprehension} {scope : Scope} {pos : Pos} {d : Nat} {tg iter : Expr} {ifs : List Expr} {D : Addr} {it : Value} {env : Env} {nx : Option (Expr × Expr × List Expr)}
/-- a clause's loop -/
theorem loop_at (hg : gens[d]? = some ⟨tg, iter, ifs, 0⟩) (hn : gens[d + 1]? = nx.map clause) (I : Nat → Shared → Prop)
    (turn : ∀ n s, I n s → wpAny (model P w) A (pyNext it) (fun r s1 => match r with
      | none => R (.ok .next) s1
      | some v => wpAny (model P w) A (letOwnedTupleGo tg it v) (fun _ s2 => wpAny (model P w) A (assign tg env v) (fun _ s3 =>
          wpAny (model P w) A (forIn ifs true fun c r => if r = true then do let ok ← isTrue c env (eval c env); pure (ForInStep.yield ok) else pure (ForInStep.yield r)) (fun ok s4 =>
            if ok = true then wpAny (model P w) A (k.rest gens scope pos (d + 1) D env nx) (fun _ s5 => ∃ m, m < n ∧ I m s5) (fun _ _ => False) s4
            else ∃ m, m < n ∧ I m s4) (fun _ _ => False) s3) (fun _ _ => False) s2) (fun _ _ => False) s1) (fun _ _ => False) s)
    (n : Nat) (h : I n s) : codeAny (model P w) A (.compLoop (k.ex gens scope pos) d it (.ref D) env) R s := by
  have key : ∀ e, e = k.ex gens scope pos → (∀ n s, I n s → wpAny (model P w) A (compTurn e d it (.ref D) env) (fun fin s' => match fin with
      | .done f => R (.ok f) s'
      | .again c' => c' = .compLoop e d it (.ref D) env ∧ ∃ m, m < n ∧ I m s') (fun _ _ => False) s) → codeAny (model P w) A (.compLoop e d it (.ref D) env) R s := by
    intro e he t
    cases k with
    | lst elt =>
      subst he
      refine codeAny_loop rfl I (fun n s hI => ?_) n h
      show wpAny _ A ((compTurn _ d it (.ref D) env).onRaise (fun x => do noteFrame x env; theTreesLotGoes x)) _ _ s
      exact wpAny_noted (thnF (t n s hI) fun _ _ q => q)
    | dic kx vx =>
      subst he
      refine codeAny_loop rfl I (fun n s hI => ?_) n h
      show wpAny _ A ((compTurn _ d it (.ref D) env).onRaise (fun x => do noteFrame x env; theTreesLotGoes x)) _ _ s
      exact wpAny_noted (thnF (t n s hI) fun _ _ q => q)
  refine key _ rfl fun n s hI => ?_
  rw [turn_at hg hn]
  refine wpAny_bind (wpAny_standAt (wpAny_bind (thnF (turn n s hI) fun r s1 h1 => ?_)))
  cases r with
  | none => exact wpAny_pure h1
  | some v =>
    refine wpAny_bind (thnF h1 fun _ s2 h2 => wpAny_bind (thnF h2 fun _ s3 h3 => wpAny_bind (thnF h3 fun ok s4 h4 => ?_)))
    cases ok with
    | false => exact wpAny_pure ⟨rfl, h4⟩
    | true => exact wpAny_bind (thnF h4 fun _ s5 h5 => wpAny_pure ⟨rfl, h5⟩)
/-- the loop's start -/
theorem start_at (hg : gens[d]? = some ⟨tg, iter, ifs, 0⟩) (h0 : codeAny (model P w) A (.compLoop (k.ex gens scope pos) d it (.ref D) env) R s)
    (h : wpAny (model P w) A (pyIter it) (fun it' s' => codeAny (model P w) A (.compLoop (k.ex gens scope pos) d it' (.ref D) env) R s') (fun _ _ => False) s) :
    codeAny (model P w) A (.compStart (k.ex gens scope pos) d it (.ref D) env) R s := by
  have key : ∀ e, e = k.ex gens scope pos → wpAny (model P w) A (compStart e d it (.ref D) env) (fun fin s' => match fin with
      | .done f => R (.ok f) s'
      | .again c' => c'.quiet = true ∧ codeAny (model P w) A c' R s') (fun _ _ => False) s → codeAny (model P w) A (.compStart e d it (.ref D) env) R s := by
    intro e he t
    refine codeAny_of_tree ?_
    cases k with
    | lst elt =>
      subst he
      show wpAny _ _ ((compStart _ d it (.ref D) env).onRaise (fun x => do noteFrame x env; standAt theWindowsPlace)) _ _ s
      exact wpAny_notedAt (thnF t fun _ _ q => q)
    | dic kx vx =>
      subst he
      show wpAny _ _ ((compStart _ d it (.ref D) env).onRaise (fun x => do noteFrame x env; standAt theWindowsPlace)) _ _ s
      exact wpAny_notedAt (thnF t fun _ _ q => q)
  have hc : (clausesOf (k.ex gens scope pos))[d]? = some ⟨tg, iter, ifs, 0⟩ := by cases k <;> exact hg
  have hq : (Code.compLoop (k.ex gens scope pos) d it (.ref D) env).quiet = true := by cases k <;> rfl
  refine key _ rfl ?_
  unfold compStart
  rw [hc]
  show wpAny _ _ (ask >>= _) _ _ s
  refine wpAny_bind (wpAny_askSetting (wpAny_ite ?_))
  split
  · first
      | exact wpAny_bind (wpAny_pure (wpAny_pure ⟨hq, h0⟩))
      | exact wpAny_pure ⟨hq, h0⟩
  · refine wpAny_bind (wpAny_rule ?_)
    show wpAny _ _ (standAt iter.pos >>= _) _ _ s
    refine wpAny_bind (wpAny_standAt (wpAny_bind (thnF h fun it' s' h' => wpAny_pure ⟨?_, h'⟩)))
    cases k <;> rfl
end
end TL
end
section
set_option maxRecDepth 100000
set_option maxHeartbeats 0
/-! TCl2: the inner clauses, over tree values. -/
namespace TL
open PySem PySem.Spec PyProof.Rows L2
/-- what a turn does behind its tests: it may write, and stores names at vs alone -/
structure WB (X : Cx) (vs : List Nat) (m : Sem Unit) (ρ : En) (M : Mp) (R : En → Mp → Prop) : Prop where
  run : ∀ (pins : Pins) (s : Shared) (σ : SS) (H F : Hp), Inv X pins σ H s → Sim X.K H F M σ ρ →
    wpAny (model X.prog X.w) X.A m (fun _ s' => ∃ σ' H', Inv X pins σ' H' s' ∧ L2.wipe σ' vs = L2.wipe σ vs ∧ NEnd X H F M R σ' H') X.xe s
theorem wipe_own {σ : SS} {i : Nat} {v : V} {vs : List Nat} (h : i ∈ vs) : L2.wipe (σ.set i (some v)) vs = L2.wipe σ vs := by
  refine List.ext_getElem? fun j => ?_
  by_cases hj : j ∈ vs
  · by_cases hl : j < σ.length
    · rw [wipe_at hj (by simpa using hl), wipe_at hj hl]
    · rw [List.getElem?_eq_none (by rw [wipe_length]; simp; omega), List.getElem?_eq_none (by rw [wipe_length]; omega)]
  · rw [wipe_keep hj, wipe_keep hj, List.getElem?_set_ne (by intro e; subst e; exact hj h)]
/-- a target that binds as bind does, names at vs alone -/
def BindIn (K : PySem.W.Frag) (g : TG) (vs : List Nat) (bind : D → En → Option En) : Prop :=
  ∀ (v : V) (x : D) (σ : SS) (H F : Hp) (M : Mp) (ρ ρ1 : En) (Q : SS → Hp → Prop), Sim K H F M σ ρ → Rep K F v x → bind x ρ = some ρ1 →
    (∀ σ', Sim K H F M σ' ρ1 → L2.wipe σ' vs = L2.wipe σ vs → Q σ' H) → g v σ H Q
abbrev in1 (i : Nat) : D → En → Option En := fun x ρ => some (ρ.set i (some x))
abbrev in2 (i j : Nat) : D → En → Option En := fun x ρ => match x with
  | .tup [a, b] => some ((ρ.set i (some a)).set j (some b))
  | _ => none
theorem bindin_name {K : PySem.W.Frag} {i : Nat} {vs : List Nat} (h : i ∈ vs) : BindIn K (gName i) vs (in1 i) := by
  intro v x σ H F M ρ ρ1 Q S r e hq
  cases e
  exact hq _ (S.set i r) (wipe_own h)
theorem bindin_two {K : PySem.W.Frag} {i j : Nat} {vs : List Nat} (h : i ∈ vs) (h2 : j ∈ vs) : BindIn K (gTup K 2 (gCons (gName i) (gCons (gName j) gNil))) vs (in2 i j) := by
  intro v x σ H F M ρ ρ1 Q S r e hq
  unfold in2 at e
  split at e
  · rename_i a b
    cases e
    cases r with
    | tup hs hr =>
      cases hr with
      | cons r1 hr =>
        cases hr with
        | cons r2 hr =>
          cases hr
          exact ⟨_, _, rfl, S.good.sub.sqT hs, rfl, _, _, rfl, _, _, rfl, rfl, hq _ ((S.set i r1).set j r2) (by rw [wipe_own h2, wipe_own h])⟩
  · cases e
/-- an inner clause's turns -/
def ForB (X : Cx) (vs : List Nat) (bind : D → En → Option En) (ifs : List Expr) (m : Sem Unit) (R : En → Mp → Prop) : List D → En → Mp → Prop
  | [], ρ, M => ∃ ρt, Le ρt ρ ∧ R ρt M
  | x :: xs, ρ, M => ∃ ρ1, bind x ρ = some ρ1 ∧ WTs X ifs ρ1 M fun b M1 => (b = false → ForB X vs bind ifs m R xs ρ1 M1) ∧ (b = true → WB X vs m ρ1 M1 (ForB X vs bind ifs m R xs))
section
variable {X : Cx} {vs : List Nat} {ρ : En} {M : Mp} {R : En → Mp → Prop} {elt kx vx : Expr} {gens : List Comprehension} {scope : Scope} {pos : Pos} {d : Nat} {Da : Addr}
/-- the element, appended -/
theorem WB.emitL (h : WE X elt ρ M fun y M1 => ∃ acc, M1 Da = some (.lst acc) ∧ acc.length < sizeLine ∧ R ρ (mset M1 Da (.lst (acc ++ [y])))) : WB X vs ((CK.lst elt).rest gens scope pos d Da X.env none) ρ M R := by
  refine ⟨fun pins s σ H F I S => ?_⟩
  show wpAny _ _ ((CK.lst elt).emit Da X.env) _ _ _
  refine wpAny_bind (thn (h.run pins s σ H F I S) fun u s1 ⟨v, H1, F1, M1, y, I1, r1, t1, p1, acc, hD, hz, q⟩ => ?_)
  obtain ⟨ws, hv, rv⟩ := t1.good.lst hD
  refine wpAny_bind (app_ok I1 hv (by rw [rv.length]; exact hz) r1 fun s2 I2 => wpAny_pure ?_)
  have t2 := Stp.write t1.good hD (.lst (rv.append (.cons p1 .nil)))
  exact ⟨σ, _, I2, rfl, F1, _, ρ, t1.trans t2, (S.step t1).step t2, q⟩
/-- the next clause -/
theorem WB.loop {k : CK} {tg iter : Expr} {ifs : List Expr} {nx : Option (Expr × Expr × List Expr)} {g : TG} {bind : D → En → Option En} (hg : gens[d]? = some ⟨tg, iter, ifs, 0⟩) (hn : gens[d + 1]? = nx.map clause) (hc : X.calm = true) (hxe : X.xe = fun _ _ => False)
    (pg : PG X tg g) (hb : BindIn X.K g vs bind) (hs : ∀ x, foldedSetIterable iter X.env x = pure x) (h : WI X tg iter ρ M fun xs M1 => ForB X vs bind ifs (k.rest gens scope pos (d + 1) Da X.env nx) R xs ρ M1) :
    WB X vs (k.rest gens scope pos d Da X.env (some (tg, iter, ifs))) ρ M R := by
  refine ⟨fun pins s σ H F I S => ?_⟩
  obtain ⟨wi, hi, h⟩ := h
  have hh := hi.run pins s σ H (fun J H1 => ∃ F1 M1 xs, Stp X.K H F M H1 F1 M1 ∧ Walks X.K J H1 F1 M1 xs ∧ ForB X vs bind ifs (k.rest gens scope pos (d + 1) Da X.env nx) R xs ρ M1) I (h σ H F S _ fun J H1 F1 M1 xs t w q => ⟨F1, M1, xs, t, w, q⟩)
  show wpAny _ _ (do let x ← eval iter X.env; standAt iter.pos; let x ← foldedSetIterable iter X.env x; let _ ← runOwn (.compStart (k.ex gens scope pos) d (← holding [x] (pyIter x)) (.ref Da) X.env) X.env) _ _ _
  refine wpAny_bind (thn hh fun xv s1 h1 => wpAny_bind (wpAny_standAt (wpAny_bind (wpAny_of_eq (hs xv) (wpAny_bind (wpAny_holding (thn h1 fun itv s2 h2 => ?_)))))))
  obtain ⟨it, fp, tn, J, H2, e, I2, T, st2, f2, F2, M2, xs, t2, wk, fb⟩ := h2
  subst e
  refine wpAny_bind (wpAny_runOwn ?_)
  have stat : ∀ {H' : Hp}, (∀ b ∈ fp, H' b = none) → ∀ b ∈ fp, FpOk X pins H' b := fun q b hb' => ⟨q b hb', (f2 b hb').2⟩
  have loop : codeAny (model X.prog X.w) X.A (.compLoop (k.ex gens scope pos) d (.ref it) (.ref Da) X.env) (fun r s' => match r with
      | .ok f => wpAny (model X.prog X.w) X.A (pure ()) (fun _ s' => ∃ σ' H', Inv X pins σ' H' s' ∧ L2.wipe σ' vs = L2.wipe σ vs ∧ NEnd X H F M R σ' H') X.xe s'
      | .error e => cameBackBy (model X.prog X.w) X.A X.env X.xe e s') s2 := by
    refine loop_at hg hn (fun n s' => ∃ i σ' H' F' M' ρ', n = xs.length - i ∧ i ≤ xs.length ∧ Inv X pins σ' H' s' ∧ L2.wipe σ' vs = L2.wipe σ vs ∧ tn i s'.heap ∧ (∀ b ∈ fp, H' b = none) ∧ Stp X.K H2 F2 M2 H' F' M' ∧ Sim X.K H' F' M' σ' ρ' ∧
      ForB X vs bind ifs (k.rest gens scope pos (d + 1) Da X.env nx) R (xs.drop i) ρ' M') ?_ xs.length ⟨0, σ, H2, F2, M2, ρ, by simp, Nat.zero_le _, I2, rfl, st2, fun b hb' => (f2 b hb').1, Stp.refl t2.good, S.step t2, by simpa using fb⟩
    rintro n s3 ⟨i, σ3, H3, F3, M3, ρ3, rfl, hi3, I3, w3, st3, fr3, t3, S3, fb3⟩
    by_cases hlt : i < xs.length
    · obtain ⟨hgo, hy⟩ := (wk i H3 F3 M3 t3).1 hlt
      refine thnF (T.item X rfl rfl rfl hc i pins s3 σ3 H3 (fun _ _ => False) I3 (stat fr3) st3 hgo) fun r s4 ⟨u, hr, h4⟩ => ?_
      subst hr
      refine thnF h4 fun _ s5 ⟨x, H5, I5, r5, y5, st5, fr5⟩ => ?_
      obtain ⟨F5, dd, hd, t5, rp⟩ := hy x H5 y5
      have ed : xs.drop i = dd :: xs.drop (i + 1) := by
        rw [List.drop_eq_getElem_cons hlt]
        have := List.getElem?_eq_getElem hlt
        rw [hd] at this
        rw [Option.some.inj this]
      rw [ed] at fb3
      obtain ⟨ρ1, eb, wt⟩ := fb3
      have I5' := I5.pinned (stat fr5) (T.obj _ _ st5)
      have pgr := pg.run (pins ++ pinsAt fp s5.heap) s5 σ3 H5 x u (fun σ' H' => H' = H5 ∧ Sim X.K H5 F5 M3 σ' ρ1 ∧ L2.wipe σ' vs = L2.wipe σ3 vs) I5' r5 (hb x dd σ3 H5 F5 M3 ρ3 ρ1 _ (S3.step t5) rp eb fun σ' S' e => ⟨rfl, S', e⟩)
      rw [hxe] at pgr
      refine thnF pgr fun _ s6 ⟨σ6, H6, I6, e6, S6, w6⟩ => ?_
      subst e6
      have wtr := wt.run (pins ++ pinsAt fp s5.heap) s6 σ6 _ F5 I6 S6
      rw [hxe] at wtr
      refine thnF wtr fun b s7 ⟨H7, F7, M7, I7, t7, qf, qt⟩ => ?_
      have again : ∀ {s' : Shared} {σ' : SS} {H' F' : Hp} {M' : Mp} {ρ' : En}, Inv X (pins ++ pinsAt fp s5.heap) σ' H' s' → L2.wipe σ' vs = L2.wipe σ6 vs → Stp X.K H7 F7 M7 H' F' M' → Sim X.K H' F' M' σ' ρ' → ForB X vs bind ifs (k.rest gens scope pos (d + 1) Da X.env nx) R (xs.drop (i + 1)) ρ' M' →
          ∃ m, m < xs.length - i ∧ ∃ i σ' H' F' M' ρ', m = xs.length - i ∧ i ≤ xs.length ∧ Inv X pins σ' H' s' ∧ L2.wipe σ' vs = L2.wipe σ vs ∧ tn i s'.heap ∧ (∀ b ∈ fp, H' b = none) ∧ Stp X.K H2 F2 M2 H' F' M' ∧ Sim X.K H' F' M' σ' ρ' ∧ ForB X vs bind ifs (k.rest gens scope pos (d + 1) Da X.env nx) R (xs.drop i) ρ' M' := fun {s' σ' H' F' M' ρ'} I' w' t' S' fb' => by
        have pin : ∀ b ∈ fp, ∀ o, s5.heap.get? b = some o → s'.heap.get? b = some o ∧ H' b = none := fun b hb' o e =>
          let z := I'.pin (b, o) (List.mem_append_right _ (List.mem_append_right _ (mem_pinsAt hb' e)))
          ⟨z.1, z.2.1⟩
        refine ⟨xs.length - (i + 1), by omega, i + 1, σ', H', F', M', ρ', rfl, hlt, I'.unpinned, by rw [w', w6, w3], T.keep _ _ _ st5 fun b hb' o e => (pin b hb' o e).1, fun b hb' => ?_, ((t3.trans t5).trans t7).trans t', S', fb'⟩
        obtain ⟨o, e, _⟩ := T.obj _ _ st5 b hb'
        exact (pin b hb' o e).2
      cases b with
      | false =>
        rw [if_neg Bool.false_ne_true]
        exact again I7 rfl (Stp.refl t7.good) (S6.step t7) (qf rfl)
      | true =>
        rw [if_pos rfl]
        have br := (qt rfl).run (pins ++ pinsAt fp s5.heap) s7 σ6 H7 F7 I7 (S6.step t7)
        rw [hxe] at br
        exact thnF br fun _ s8 ⟨σ8, H8, I8, w8, F8, M8, ρ8, t8, S8, fb8⟩ => again I8 w8 t8 S8 fb8
    · have e : i = xs.length := by omega
      subst e
      rw [List.drop_length] at fb3
      obtain ⟨ρt, l, q⟩ := fb3
      refine thnF (T.done X rfl rfl rfl hc xs.length pins s3 σ3 H3 (fun _ _ => False) I3 (stat fr3) st3 ((wk _ H3 F3 M3 t3).2 rfl)) fun r s4 ⟨hr, I4⟩ => ?_
      subst hr
      exact wpAny_pure ⟨σ3, H3, I4, w3, F3, M3, ρt, t2.trans t3, S3.le l, q⟩
  exact start_at hg loop (T.self X.A 0 _ _ _ st2 loop)
end
end TL
end
section
set_option maxRecDepth 100000
set_option maxHeartbeats 0
/-! TCl3: comprehensions of several clauses, from the outermost clause on. -/
namespace TL
open PySem PySem.Spec PyProof.Rows L2
/-- what stands in front of the turns: the thing that is made -/
structure AccOk (X : Cx) (newAcc : Sem Value) (mo : MO) : Prop where
  ok : ∃ ob : Obj, (∀ (Q : Value → Shared → Prop) (E : Value → Shared → Prop) (s : Shared), Q (.ref s.heap.objs.size) { s with heap := s.heap.push ob } → wpAny (model X.prog X.w) X.A newAcc Q E s) ∧
    ∀ (H : Hp) (h : Heap), sysModules < h.objs.size → ∃ o : HO, ObjOk X.prog X.w (upd H h.objs.size o) (h.push ob) h.objs.size o ∧ ∀ F, RepO X.K F o mo
theorem acc_lst (X : Cx) : AccOk X (newList []) (.lst []) :=
  ⟨⟨_, fun Q E s h => wpAny_newObj_type h (by show 0 ≤ sizeLine; decide), fun H h _ => ⟨.lst [], ⟨Nat.zero_le _, [], 0, .nil, Heap.get?_push_size _ rfl⟩, fun F => .lst .nil⟩⟩⟩
theorem acc_dic (X : Cx) : AccOk X newDict (.dic []) :=
  ⟨⟨_, fun Q E s h => wpAny_newObj_type h, fun H h hb => ⟨.dK [], dk_empty h hb, fun F => .dic .nil⟩⟩⟩
theorem acc_kd (X : Cx) : AccOk X newDict (.kd X.w []) :=
  ⟨⟨_, fun Q E s h => wpAny_newObj_type h, fun H h hb => ⟨KDO X.w h.objs.size [], kdo_ok (Heap.get?_push_size _ rfl) ⟨rfl, rfl, rfl⟩ rfl rfl List.nodup_nil (Nat.zero_le _) (beq_eq_false_iff_ne.mpr (Ne.symm (Nat.ne_of_lt hb))), fun F => .kd .nil⟩⟩⟩
/-- the outermost clause's turns: the block's names are nothing ahead of each -/
def ForC (X : Cx) (vs : List Nat) (bind : D → En → Option En) (ifs : List Expr) (m : Sem Unit) (ρ : En) (R : Mp → Prop) : List D → Mp → Prop
  | [], M => R M
  | x :: xs, M => ∃ ρ1, bind x (wipeE ρ vs) = some ρ1 ∧ WTs X ifs ρ1 M fun b M1 => (b = false → ForC X vs bind ifs m ρ R xs M1) ∧ (b = true → WB X vs m ρ1 M1 fun _ M2 => ForC X vs bind ifs m ρ R xs M2)
theorem wipe_twice {σ : SS} {vs : List Nat} : L2.wipe (L2.wipe σ vs) vs = L2.wipe σ vs := by
  refine List.ext_getElem? fun j => ?_
  by_cases hj : j ∈ vs
  · by_cases hl : j < σ.length
    · rw [wipe_at hj (by rw [wipe_length]; exact hl), wipe_at hj hl]
    · rw [List.getElem?_eq_none (by rw [wipe_length, wipe_length]; omega), List.getElem?_eq_none (by rw [wipe_length]; omega)]
  · rw [wipe_keep hj]
section
variable {X : Cx} {ρ : En} {M : Mp} {gens : List Comprehension} {scope : Scope} {pos pos' : Pos} {own : List (Str × Nat)}
theorem mc_core {k : CK} {newAcc : Sem Value} {mo : MO} {tg iter : Expr} {ifs : List Expr} {nx : Option (Expr × Expr × List Expr)} {rest : List Comprehension} {g : TG} {bind : D → En → Option En} {fin : Addr → Mp → Prop} {pins : Pins} {s : Shared} {σ : SS} {H F : Hp} {use : Option (Value → Sem Unit)} {Qf : Value → Shared → Prop}
    (hgens : gens = ⟨tg, iter, ifs, 0⟩ :: rest) (hn : gens[1]? = nx.map clause) (hacc : AccOk X newAcc mo) (hc : X.calm = true) (hN : X.N.Nodup) (inv : Inv X pins σ H s) (sim : Sim X.K H F M σ ρ) (ok : BlkOk X.N X.env.scope scope own)
    (hb : BindIn X.K g (own.map (·.2)) bind) (hg : ∀ (s : Shared) (H : Hp) (C : Addr) (cl : List (Str × Addr)) (fp : List Addr), PG (Blk X scope s H C cl fp) tg g) (hs : ∀ x, foldedSetIterable iter X.env x = pure x)
    (h : WI X tg iter ρ M fun xs M1 => ∀ D, M1 D = none → ∀ (s : Shared) (H : Hp) (C : Addr) (cl : List (Str × Addr)) (fp : List Addr), ForC (Blk X scope s H C cl fp) (own.map (·.2)) bind ifs (k.rest gens scope pos 1 D (Blk X scope s H C cl fp).env nx) ρ (fin D) xs (mset M1 D mo))
    (post : ∀ D C s' m H' F' M', Inv X pins σ H' s' → Stp X.K H F M H' F' M' → fin D M' → s'.heap.Ns C m → FpOk X pins H' C → compPost (model X.prog X.w) X.A X.xe use Qf (.ref D) C (.ok .next) s') :
    wpAny (model X.prog X.w) X.A (comprehension (k.ex gens scope pos) scope X.env pos' newAcc false (eval iter X.env) use) Qf X.xe s := by
  subst hgens
  obtain ⟨wi, hi, h⟩ := h
  obtain ⟨ob, hnew, hob⟩ := hacc.ok
  have q1 := hi.run pins s σ H (fun J H1 => ∃ F1 M1 xs, Stp X.K H F M H1 F1 M1 ∧ Walks X.K J H1 F1 M1 xs ∧ ∀ D, M1 D = none → ∀ (s : Shared) (H : Hp) (C : Addr) (cl : List (Str × Addr)) (fp : List Addr), ForC (Blk X scope s H C cl fp) (own.map (·.2)) bind ifs (k.rest (⟨tg, iter, ifs, 0⟩ :: rest) scope pos 1 D (Blk X scope s H C cl fp).env nx) ρ (fin D) xs (mset M1 D mo))
    inv (h σ H F sim _ fun J H1 F1 M1 xs t w q => ⟨F1, M1, xs, t, w, q⟩)
  have hfr : ∀ z ∈ scope.names, z.2 = .free → ∃ c, X.env.cells.lookup z.1 = some c := fun z hz e => (ok.free z hz e).elim (fun r => inv.ok.has _ (.inl r)) fun r => inv.ok.has _ (.inr r)
  have hcl : clausesOf (k.ex (⟨tg, iter, ifs, 0⟩ :: rest) scope pos) = ⟨tg, iter, ifs, 0⟩ :: rest := by cases k <;> rfl
  refine wpAny_comprehension_free (use := use) hcl hs (closure_ok hfr) ok.kind (fun z hz e => (ok.uniq z hz).trans (congrArg some e)) (thn q1 fun xv s1 q2 => thn q2 fun itv s2 q3 => ?_)
  obtain ⟨it, fp, tn, J, H2, e, I2, T, st2, f2, F2, M2, xs, t2, wk, fc⟩ := q3
  subst e
  refine hnew _ _ _ (newEnv_comp ?_)
  generalize eD : s2.heap.objs.size = Dn
  have dH : H2 Dn = none := I2.hok.fresh (Nat.le_of_eq eD)
  have dM : M2 Dn = none := t2.good.free dH
  obtain ⟨o, oo, ro⟩ := hob H2 s2.heap I2.big
  rw [eD] at oo
  generalize es3 : ({ s2 with heap := s2.heap.push ob } : Shared) = s3
  have hp3 : s3.heap = s2.heap.push ob := by rw [← es3]
  have I3 : Inv X pins σ (upd H2 Dn o) s3 := by
    rw [← es3]
    exact I2.laid (t' := s2.toks) (fun b u e => Heap.get?_push_of_some _ e) (Nat.le_of_eq eD) oo
  have tNew : Stp X.K H2 F2 M2 (upd H2 Dn o) F2 (mset M2 Dn mo) := Stp.newM t2.good dH (ro F2)
  have f3 : ∀ b ∈ fp, FpOk X pins (upd H2 Dn o) b ∧ b < s3.heap.objs.size := fun b hb' => by
    obtain ⟨u, e, _⟩ := T.obj _ _ st2 b hb'
    have lt := Heap.lt_size e
    exact ⟨⟨(upd_ne (by rw [← eD]; exact Nat.ne_of_lt lt)).trans (f2 b hb').1, (f2 b hb').2⟩, by rw [hp3, Heap.size_push]; exact Nat.lt_succ_of_lt lt⟩
  have st3 : tn 0 s3.heap := T.keep _ _ _ st2 fun b _ u e => by rw [hp3]; exact Heap.get?_push_of_some _ e
  have I4 := block_start I3 ok hN f3
  have pg : PG (X.blk s3 (upd H2 Dn o) scope (compEnvC scope (cellsFrom (s3.heap.objs.size + 1) scope.names (cloFrom X.env.cells scope.names [])) s3.heap.objs.size X.env) fp) tg g := hg s3 (upd H2 Dn o) s3.heap.objs.size (cellsFrom (s3.heap.objs.size + 1) scope.names (cloFrom X.env.cells scope.names [])) fp
  have fb0 : ForC (X.blk s3 (upd H2 Dn o) scope (compEnvC scope (cellsFrom (s3.heap.objs.size + 1) scope.names (cloFrom X.env.cells scope.names [])) s3.heap.objs.size X.env) fp) (own.map (·.2)) bind ifs (k.rest (⟨tg, iter, ifs, 0⟩ :: rest) scope pos 1 Dn (compEnvC scope (cellsFrom (s3.heap.objs.size + 1) scope.names (cloFrom X.env.cells scope.names [])) s3.heap.objs.size X.env) nx) ρ (fin Dn) xs (mset M2 Dn mo) :=
    fc Dn dM s3 (upd H2 Dn o) s3.heap.objs.size (cellsFrom (s3.heap.objs.size + 1) scope.names (cloFrom X.env.cells scope.names [])) fp
  show codeAny _ _ (.compStart (k.ex (⟨tg, iter, ifs, 0⟩ :: rest) scope pos) 0 (.ref it) (.ref Dn) (compEnvC scope (cellsFrom (s3.heap.objs.size + 1) scope.names (cloFrom X.env.cells scope.names [])) s3.heap.objs.size X.env)) (compPost (model X.prog X.w) X.A X.xe use Qf (.ref Dn) s3.heap.objs.size) { s3 with heap := pushCells (s3.heap.push { cls := .type "dict", data := .dict #[] }) scope.names }
  have n0 : ∀ b ∈ fp, (upd H2 Dn o) b = none := fun b hb' => (f3 b hb').1.1
  generalize ece : compEnvC scope (cellsFrom (s3.heap.objs.size + 1) scope.names (cloFrom X.env.cells scope.names [])) s3.heap.objs.size X.env = ce at I4 pg fb0 ⊢
  have cLo : ce.locals = s3.heap.objs.size := by subst ece; rfl
  generalize eH3 : upd H2 Dn o = H3 at I3 I4 pg fb0 tNew n0 f3
  generalize es4 : ({ s3 with heap := pushCells (s3.heap.push { cls := .type "dict", data := .dict #[] }) scope.names } : Shared) = s4 at I4 ⊢
  have st4 : tn 0 s4.heap := T.keep _ _ _ st3 fun b _ u e => by rw [← es4]; exact pushCells_keeps _ _ _ _ (Heap.get?_push_of_some _ e)
  generalize eY : X.blk s3 H3 scope ce fp = Y at I4 pg fb0
  have yK : Y.K = X.K := by subst eY; rfl
  have yxe : Y.xe = fun _ _ => False := by subst eY; rfl
  have yenv : Y.env = ce := by subst eY; rfl
  have yp : Y.prog = X.prog := by subst eY; rfl
  have yw : Y.w = X.w := by subst eY; rfl
  have yA : Y.A = X.A := by subst eY; rfl
  have stat : ∀ {σ' : SS} {H' : Hp} {s' : Shared}, Inv Y [] σ' H' s' → (∀ b ∈ fp, H' b = none) → ∀ b ∈ fp, FpOk Y [] H' b := fun {σ' H' s'} I' n b hb' => by
    subst eY
    exact ⟨n b hb', (I'.ok.exf b hb').1, I'.ok.exfs b hb', .inl hb', fun x c e => (I'.ok.exf b hb').2 x c e, fun p hp => absurd (show p ∈ ([] : List (Addr × Obj)) ++ [] from hp) (by simp)⟩
  have sim3 : Sim X.K H3 F2 (mset M2 Dn mo) σ ρ := (sim.step t2).step tNew
  have loop : codeAny (model X.prog X.w) X.A (.compLoop (k.ex (⟨tg, iter, ifs, 0⟩ :: rest) scope pos) 0 (.ref it) (.ref Dn) ce) (compPost (model X.prog X.w) X.A X.xe use Qf (.ref Dn) s3.heap.objs.size) s4 := by
    refine loop_at rfl hn (fun n s' => ∃ i H' F' M', n = xs.length - i ∧ i ≤ xs.length ∧ Inv Y [] (wipe σ (own.map (·.2))) H' s' ∧ tn i s'.heap ∧ (∀ b ∈ fp, H' b = none) ∧ Stp X.K H3 F2 (mset M2 Dn mo) H' F' M' ∧
      ForC Y (own.map (·.2)) bind ifs (k.rest (⟨tg, iter, ifs, 0⟩ :: rest) scope pos 1 Dn ce nx) ρ (fin Dn) (xs.drop i) M') ?_ xs.length ⟨0, H3, F2, _, by simp, Nat.zero_le _, I4, st4, n0, Stp.refl tNew.good, by subst eY; simpa using fb0⟩
    rintro n s5 ⟨i, H5, F5, M5, rfl, hi5, I5, st5, n5, t5, c5⟩
    have tAll : Stp X.K H2 F2 M2 H5 F5 M5 := tNew.trans t5
    by_cases hlt : i < xs.length
    · obtain ⟨go, hy⟩ := (wk i H5 F5 M5 tAll).1 hlt
      have ti := T.item Y (by subst eY; rfl) (by subst eY; rfl) (by subst eY; rfl) (by subst eY; exact hc) i [] s5 _ H5 (fun _ _ => False) I5 (stat I5 n5) st5 go
      simp only [yp, yw, yA] at ti
      refine thnF ti fun r s6 ⟨u, er, q6⟩ => ?_
      subst er
      refine thnF q6 fun _ s7 ⟨x, H7, I7, r7, y7, st7, n7⟩ => ?_
      obtain ⟨F7, dd, hd, t7, rp⟩ := hy x H7 y7
      have ed : xs.drop i = dd :: xs.drop (i + 1) := by
        rw [List.drop_eq_getElem_cons hlt]
        have z := List.getElem?_eq_getElem hlt
        rw [hd] at z
        rw [Option.some.inj z]
      rw [ed] at c5
      obtain ⟨ρ1, eb, wt⟩ := c5
      have I7' := I7.pinned (stat I7 n7) (T.obj _ _ st7)
      have S7 := ((sim3.step t5).step t7).wipe (own.map (·.2))
      have pgr := pg.run ([] ++ pinsAt fp s7.heap) s7 _ H7 x u (fun σ' H' => H' = H7 ∧ Sim X.K H7 F7 M5 σ' ρ1 ∧ L2.wipe σ' (own.map (·.2)) = L2.wipe σ (own.map (·.2))) I7' r7 (hb x dd _ H7 F7 M5 _ ρ1 _ S7 rp eb fun σ' S' e => ⟨rfl, S', e.trans wipe_twice⟩)
      simp only [yxe, yenv, yp, yw, yA] at pgr
      refine thnF pgr fun _ s8 ⟨σ8, H8, I8, e8, S8, w8⟩ => ?_
      subst e8
      have wtr := wt.run ([] ++ pinsAt fp s7.heap) s8 σ8 _ F7 I8 (by rw [yK]; exact S8)
      simp only [yxe, yenv, yp, yw, yA] at wtr
      refine thnF wtr fun b s9 ⟨H9, F9, M9, I9, t9, qf, qt⟩ => ?_
      rw [yK] at t9
      have fin' : ∀ {s' : Shared} {σ' : SS} {H' F' : Hp} {M' : Mp}, Inv Y ([] ++ pinsAt fp s7.heap) σ' H' s' → L2.wipe σ' (own.map (·.2)) = L2.wipe σ (own.map (·.2)) → Stp X.K H9 F9 M9 H' F' M' → ForC Y (own.map (·.2)) bind ifs (k.rest (⟨tg, iter, ifs, 0⟩ :: rest) scope pos 1 Dn ce nx) ρ (fin Dn) (xs.drop (i + 1)) M' →
          ∃ m, m < xs.length - i ∧ ∃ i H' F' M', m = xs.length - i ∧ i ≤ xs.length ∧ Inv Y [] (wipe σ (own.map (·.2))) H' s' ∧ tn i s'.heap ∧ (∀ b ∈ fp, H' b = none) ∧ Stp X.K H3 F2 (mset M2 Dn mo) H' F' M' ∧ ForC Y (own.map (·.2)) bind ifs (k.rest (⟨tg, iter, ifs, 0⟩ :: rest) scope pos 1 Dn ce nx) ρ (fin Dn) (xs.drop i) M' := fun {s' σ' H' F' M'} I' w' t' c' => by
        have pin : ∀ b ∈ fp, ∀ u, s7.heap.get? b = some u → s'.heap.get? b = some u ∧ H' b = none := fun b hb' u e =>
          ⟨(I'.pin (b, u) (List.mem_append_right _ (List.mem_append_right _ (mem_pinsAt hb' e)))).1, (I'.pin (b, u) (List.mem_append_right _ (List.mem_append_right _ (mem_pinsAt hb' e)))).2.1⟩
        have len : (wipe σ (own.map (·.2))).length = σ'.length := (congrArg List.length w').symm.trans (wipe_length _ _)
        refine ⟨xs.length - (i + 1), by omega, i + 1, H', F', M', rfl, hlt, (I'.unpinned (pins := [])).weak len (fun j v e => (wipe_some (show (L2.wipe σ' (own.map (·.2)))[j]? = some (some v) by rw [w']; exact e)).1), T.keep _ _ _ st7 fun b hb' u e => (pin b hb' u e).1, fun b hb' => ?_, ((t5.trans t7).trans t9).trans t', c'⟩
        obtain ⟨u, e, _⟩ := T.obj _ _ st7 b hb'
        exact (pin b hb' u e).2
      cases b with
      | false =>
        rw [if_neg Bool.false_ne_true]
        exact fin' I9 w8 (Stp.refl t9.good) (qf rfl)
      | true =>
        rw [if_pos rfl]
        have br := (qt rfl).run ([] ++ pinsAt fp s7.heap) s9 σ8 H9 F9 I9 (by rw [yK]; exact S8.step t9)
        simp only [yxe, yp, yw, yA] at br
        exact thnF br fun _ s10 ⟨σ10, H10, I10, w10, F10, M10, ρ10, t10, S10, c10⟩ => fin' I10 (w10.trans w8) (by rw [yK] at t10; exact t10) c10
    · have e : i = xs.length := by omega
      subst e
      rw [List.drop_length] at c5
      have td := T.done Y (by subst eY; rfl) (by subst eY; rfl) (by subst eY; rfl) (by subst eY; exact hc) xs.length [] s5 _ H5 (fun _ _ => False) I5 (stat I5 n5) st5 ((wk _ H5 F5 M5 tAll).2 rfl)
      simp only [yp, yw, yA] at td
      refine thnF td fun r s6 ⟨er, I6⟩ => ?_
      subst er
      have nC : H5 s3.heap.objs.size = none := by
        have z : H5 Y.env.locals = none := I6.free
        rw [yenv, cLo] at z
        exact z
      obtain ⟨m, hm, _⟩ := I6.loc
      have hm : s6.heap.Ns Y.env.locals m := hm
      rw [yenv, cLo] at hm
      have I7 : Inv X pins σ H5 s6 := by
        subst eY
        exact I3.call' (ch := fp) I6.os I6.base I6.hok I6.bare fun b hb' => let ⟨⟨_, z1, _, z2, z3, z4⟩, _⟩ := f3 b hb'; ⟨z2, z1, z3, z4⟩
      exact post Dn s3.heap.objs.size s6 m H5 F5 M5 I7 (t2.trans tAll) c5 hm (I3.fpOk (Nat.le_refl _) nC)
  exact start_at rfl loop (T.self X.A 0 _ _ _ st4 loop)
end
end TL
end
section
set_option maxRecDepth 100000
set_option maxHeartbeats 0
/-! TCl4: comprehensions of several clauses as values; what a turn gives. -/
namespace TL
open PySem PySem.Spec PyProof.Rows L2
/-- a key's entry set, the first key kept -/
def putX (ds : List (D × D)) (k : NestedKey) (kd d : D) : List (D × D) := if (lookX ds k).isSome then ds.map fun p => if nkey p.1 = some k then (p.1, d) else p else ds ++ [(kd, d)]
theorem RepX.putOld {K : PySem.W.Frag} {F : Hp} {k : NestedKey} {u : Value} {v : V} {d : D} (r1 : RelV v u) (r2 : Rep K F v d) : ∀ {xs : KX} {ds : List (D × D)}, RepX K F xs ds → RepX K F (xs.map (putAt k u)) (ds.map fun p => if nkey p.1 = some k then (p.1, d) else p)
  | _, _, .nil => .nil
  | _, _, .cons (k := k') a b c e f r => by
    by_cases h : k' = k
    · subst h
      simp only [List.map_cons, putAt, if_true, a]
      exact .cons a b c r1 r2 (RepX.putOld r1 r2 r)
    · have h2 : ¬ some k' = some k := fun z => h (Option.some.inj z)
      simp only [List.map_cons, putAt, if_neg h, a, if_neg h2]
      exact .cons a b c e f (RepX.putOld r1 r2 r)
section
variable {X : Cx} {vs : List Nat} {ρ : En} {M : Mp} {R : En → Mp → Prop} {kx vx : Expr} {gens : List Comprehension} {scope : Scope} {pos : Pos} {d : Nat} {Da : Addr}
/-- an entry, its key an integer or a text -/
theorem WB.emitD (h : WE X kx ρ M fun y M1 => WE X vx ρ M1 fun z M2 => ∃ k kvs, y = keyV k ∧ M2 Da = some (.dic kvs) ∧ kvs.length < sizeLine ∧ R ρ (mset M2 Da (.dic (putG kvs k z)))) : WB X vs ((CK.dic kx vx).rest gens scope pos d Da X.env none) ρ M R := by
  refine ⟨fun pins s σ H F I S => ?_⟩
  show wpAny _ _ ((CK.dic kx vx).emit Da X.env) _ _ _
  refine wpAny_bind (thn (h.run pins s σ H F I S) fun u s1 ⟨v, H1, F1, M1, y, I1, r1, t1, p1, h2⟩ => ?_)
  refine wpAny_bind (wpAny_holding (thn (h2.run pins s1 σ H1 F1 I1 (S.step t1)) fun u2 s2 ⟨v2, H2, F2, M2, z, I2, r2, t2, p2, k, kvs, ek, hD, hz, q⟩ => ?_))
  refine wpAny_bind (wpAny_standAt (wpAny_holding ?_))
  subst ek
  obtain rfl := rep_key p1
  obtain ⟨ws, hv, rv⟩ := t2.good.dic hD
  refine d_dictSet I2 hv (by rw [rv.len]; exact hz) r1 r2 fun s3 I3 => ?_
  have t3 := Stp.write t2.good hD (.dic (rv.put (k := k) p2))
  exact ⟨σ, _, I3, rfl, F2, _, ρ, (t1.trans t2).trans t3, ((S.step t1).step t2).step t3, q⟩
/-- an entry, its key a tuple -/
theorem WB.emitK {j : Nat} (hr : GRoom j X.A) (h : WE X kx ρ M fun y M1 => WE X vx ρ M1 fun z M2 => ∃ ys k ds, y = .tup ys ∧ nkey y = some k ∧ k.depth ≤ 8 ∧ M2 Da = some (.kd X.w ds) ∧ ds.length < sizeLine ∧ R ρ (mset M2 Da (.kd X.w (putX ds k y z)))) : WB X vs ((CK.dic kx vx).rest gens scope pos d Da X.env none) ρ M R := by
  refine ⟨fun pins s σ H F I S => ?_⟩
  show wpAny _ _ ((CK.dic kx vx).emit Da X.env) _ _ _
  refine wpAny_bind (thn (h.run pins s σ H F I S) fun u s1 ⟨v, H1, F1, M1, y, I1, r1, t1, p1, h2⟩ => ?_)
  refine wpAny_bind (wpAny_holding (thn (h2.run pins s1 σ H1 F1 I1 (S.step t1)) fun u2 s2 ⟨v2, H2, F2, M2, z, I2, r2, t2, p2, ys, k, ds, ek, hk, h8, hD, hz, q⟩ => ?_))
  refine wpAny_bind (wpAny_standAt (wpAny_holding ?_))
  subst ek
  have p1' := t2.rep p1
  obtain ⟨xs, hx, rX, dd, hl, hsm⟩ := kd_dict I2 t2.good hD
  have kn := nested_of I2 t2.good.sub p1' r1 hk
  have p1'' := p1'
  cases p1' with
  | tup qs qr =>
    cases r1
    have rm : (nestedKind X.prog X.w).room X.A := by
      have z := hr.room.un
      show X.A.units + 8 < cLine
      omega
    refine wpAny_dictSet_heap (knd := nestedKind X.prog X.w) rm ⟨kn, h8⟩ dd (fun h' dd' hs => ?_) hl
    unfold putX at q
    cases hd : lookX ds k with
    | none =>
      rw [storedH_new (rX.lookN hd)] at dd'
      rw [hd] at q
      obtain ⟨J, t3⟩ := kd_write (t' := s2.toks + (nestedKind X.prog X.w).draws k) I2 t2.good hD hs dd' (by rw [List.length_append, rX.len]; exact hz) (rX.snoc hk h8 p1'' r2 p2)
      exact ⟨σ, _, J, rfl, F2, _, ρ, (t1.trans t2).trans t3, ((S.step t1).step t2).step t3, q⟩
    | some d' =>
      obtain ⟨b, u', v', e1, e2, e3⟩ := rX.look hd
      rw [storedH_old e1] at dd'
      rw [hd] at q
      obtain ⟨J, t3⟩ := kd_write (t' := s2.toks + (nestedKind X.prog X.w).draws k) I2 t2.good hD hs dd' (by rw [List.length_map]; exact hl) (rX.putOld r2 p2)
      exact ⟨σ, _, J, rfl, F2, _, ρ, (t1.trans t2).trans t3, ((S.step t1).step t2).step t3, q⟩
end
section
variable {X : Cx} {ρ : En} {M : Mp} {Q : DQ} {scope : Scope} {pos tpos q1 q2 : Pos} {own : List (Str × Nat)} {n n2 : Str} {kk : Nat} {elt kx vx iter tg1 iter1 : Expr} {ifs ifs1 : List Expr} {rest : List Comprehension} {k : CK} {mo : MO} {fin : Addr → Mp → Prop} {newAcc : Sem Value}
/-- [elt for n in iter for ..] -/
theorem WE.mcL {g : TG} {tg : Expr} (bind : D → En → Option En) (own : List (Str × Nat)) (hc : X.calm = true) (hN : X.N.Nodup) (ok : BlkOk X.N X.env.scope scope own) (hb : BindIn X.K g (own.map (·.2)) bind)
    (hg : ∀ (s : Shared) (H : Hp) (C : Addr) (cl : List (Str × Addr)) (fp : List Addr), PG (Blk X scope s H C cl fp) tg g)
    (h : WI X tg iter ρ M fun xs M1 => ∀ Da, M1 Da = none → ∀ (s : Shared) (H : Hp) (C : Addr) (cl : List (Str × Addr)) (fp : List Addr), ForC (Blk X scope s H C cl fp) (own.map (·.2)) bind ifs ((CK.lst elt).rest (⟨tg, iter, ifs, 0⟩ :: ⟨tg1, iter1, ifs1, 0⟩ :: rest) scope pos 1 Da (Blk X scope s H C cl fp).env (some (tg1, iter1, ifs1))) ρ (fun M2 => ∃ ds, M2 Da = some (.lst ds) ∧ Q (.lst ds) (mdel M2 Da)) xs (mset M1 Da (.lst [])))
    (hs : ∀ x, foldedSetIterable iter X.env x = pure x) : WE X (.ListComp elt (⟨tg, iter, ifs, 0⟩ :: ⟨tg1, iter1, ifs1, 0⟩ :: rest) scope pos) ρ M Q := by
  refine ⟨fun pins s σ H F I S => ?_⟩
  rw [eval_ListComp]
  refine mc_core (k := .lst elt) rfl rfl (acc_lst X) hc hN I S ok hb hg hs h fun Da C s' m H' F' M' I' t ⟨ds, hd, q⟩ hn f => ⟨m, hn, fun h'' sb => ?_⟩
  obtain ⟨f0, f1, f2, f3, f4, f5⟩ := f
  obtain ⟨ws, hv, rv⟩ := t.good.lst hd
  have t2 := Stp.freeze t.good hd hv
  exact ⟨.ref Da, H', _, _, _, I'.turned (t' := s'.toks) (fun b o hb e => (sb.2 b hb).trans e) f0 f1 f3 f4 f5, rfl, t.trans t2, .lst (.of upd_same) (t2.reps rv), q⟩
theorem WE.mcD {g : TG} {tg : Expr} (bind : D → En → Option En) (own : List (Str × Nat)) (hc : X.calm = true) (hN : X.N.Nodup) (ok : BlkOk X.N X.env.scope scope own) (hb : BindIn X.K g (own.map (·.2)) bind)
    (hg : ∀ (s : Shared) (H : Hp) (C : Addr) (cl : List (Str × Addr)) (fp : List Addr), PG (Blk X scope s H C cl fp) tg g)
    (h : WI X tg iter ρ M fun xs M1 => ∀ Da, M1 Da = none → ∀ (s : Shared) (H : Hp) (C : Addr) (cl : List (Str × Addr)) (fp : List Addr), ForC (Blk X scope s H C cl fp) (own.map (·.2)) bind ifs ((CK.dic kx vx).rest (⟨tg, iter, ifs, 0⟩ :: ⟨tg1, iter1, ifs1, 0⟩ :: rest) scope pos 1 Da (Blk X scope s H C cl fp).env (some (tg1, iter1, ifs1))) ρ (fun M2 => ∃ ds, M2 Da = some (.dic ds) ∧ Q (.dic ds) (mdel M2 Da)) xs (mset M1 Da (.dic [])))
    (hs : ∀ x, foldedSetIterable iter X.env x = pure x) : WE X (.DictComp kx vx (⟨tg, iter, ifs, 0⟩ :: ⟨tg1, iter1, ifs1, 0⟩ :: rest) scope pos) ρ M Q := by
  refine ⟨fun pins s σ H F I S => ?_⟩
  rw [arm_eval_DictComp]
  refine mc_core (k := .dic kx vx) rfl rfl (acc_dic X) hc hN I S ok hb hg hs h fun Da C s' m H' F' M' I' t ⟨ds, hd, q⟩ hn f => ⟨m, hn, fun h'' sb => ?_⟩
  obtain ⟨f0, f1, f2, f3, f4, f5⟩ := f
  obtain ⟨ws, hv, rv⟩ := t.good.dic hd
  have t2 := Stp.freeze t.good hd hv
  exact ⟨.ref Da, H', _, _, _, I'.turned (t' := s'.toks) (fun b o hb e => (sb.2 b hb).trans e) f0 f1 f3 f4 f5, rfl, t.trans t2, .dic upd_same (rv.mono t2.sub), q⟩
/-- {tuple: .. for .. for ..}: it stays what may be written -/
theorem WE.mcK {g : TG} {tg : Expr} (bind : D → En → Option En) (own : List (Str × Nat)) (hc : X.calm = true) (hN : X.N.Nodup) (ok : BlkOk X.N X.env.scope scope own) (hb : BindIn X.K g (own.map (·.2)) bind)
    (hg : ∀ (s : Shared) (H : Hp) (C : Addr) (cl : List (Str × Addr)) (fp : List Addr), PG (Blk X scope s H C cl fp) tg g)
    (h : WI X tg iter ρ M fun xs M1 => ∀ Da, M1 Da = none → ∀ (s : Shared) (H : Hp) (C : Addr) (cl : List (Str × Addr)) (fp : List Addr), ForC (Blk X scope s H C cl fp) (own.map (·.2)) bind ifs ((CK.dic kx vx).rest (⟨tg, iter, ifs, 0⟩ :: ⟨tg1, iter1, ifs1, 0⟩ :: rest) scope pos 1 Da (Blk X scope s H C cl fp).env (some (tg1, iter1, ifs1))) ρ (fun M2 => Q (.ref Da) M2) xs (mset M1 Da (.kd X.w [])))
    (hs : ∀ x, foldedSetIterable iter X.env x = pure x) : WE X (.DictComp kx vx (⟨tg, iter, ifs, 0⟩ :: ⟨tg1, iter1, ifs1, 0⟩ :: rest) scope pos) ρ M Q := by
  refine ⟨fun pins s σ H F I S => ?_⟩
  rw [arm_eval_DictComp]
  refine mc_core (k := .dic kx vx) rfl rfl (acc_kd X) hc hN I S ok hb hg hs h fun Da C s' m H' F' M' I' t q hn f => ⟨m, hn, fun h'' sb => ?_⟩
  obtain ⟨f0, f1, f2, f3, f4, f5⟩ := f
  exact ⟨.ref Da, H', _, _, _, I'.turned (t' := s'.toks) (fun b o hb e => (sb.2 b hb).trans e) f0 f1 f3 f4 f5, rfl, t, .ref Da, q⟩
end
/-! ### with targets of one name, of two -/
section
variable {X : Cx} {ρ : En} {M : Mp} {Q : DQ} {scope : Scope} {pos tpos q1 q2 : Pos} {n n2 : Str} {kk : Nat} {elt kx vx iter tg1 iter1 : Expr} {ifs ifs1 : List Expr} {rest : List Comprehension}
abbrev HX (X : Cx) (scope : Scope) (n : Str) : Prop := ∀ (s : Shared) (H : Hp) (C : Addr) (cl : List (Str × Addr)) (fp : List Addr), Loc (Blk X scope s H C cl fp).env.scope n ∧ ((Blk X scope s H C cl fp).fn n = true ∨ (Blk X scope s H C cl fp).env.scope.names.lookup n = some .local)
theorem WE.mcL1 (i : Nat) (own : List (Str × Nat)) (hc : X.calm = true) (hN : X.N.Nodup) (ok : BlkOk X.N X.env.scope scope own)
    (h : WI X (.Name n tpos) iter ρ M fun xs M1 => ∀ Da, M1 Da = none → ∀ (s : Shared) (H : Hp) (C : Addr) (cl : List (Str × Addr)) (fp : List Addr), ForC (Blk X scope s H C cl fp) (own.map (·.2)) (in1 i) ifs ((CK.lst elt).rest (⟨.Name n tpos, iter, ifs, 0⟩ :: ⟨tg1, iter1, ifs1, 0⟩ :: rest) scope pos 1 Da (Blk X scope s H C cl fp).env (some (tg1, iter1, ifs1))) ρ (fun M2 => ∃ ds, M2 Da = some (.lst ds) ∧ Q (.lst ds) (mdel M2 Da)) xs (mset M1 Da (.lst [])))
    (hi : X.N[i]? = some n := by rfl) (hm : i ∈ own.map (·.2) := by decide) (hx : HX X scope n := by intro _ _ _ _ _; first | exact ⟨.inl rfl, .inr rfl⟩ | exact ⟨.inr rfl, .inl rfl⟩)
    (hs : ∀ x, foldedSetIterable iter X.env x = pure x := by intro _; rfl) : WE X (.ListComp elt (⟨.Name n tpos, iter, ifs, 0⟩ :: ⟨tg1, iter1, ifs1, 0⟩ :: rest) scope pos) ρ M Q :=
  .mcL (in1 i) own hc hN ok (bindin_name hm) (fun s H C cl fp => pg_name hN hi (hx s H C cl fp).1 (hx s H C cl fp).2) h hs
theorem WE.mcL2 (i j : Nat) (own : List (Str × Nat)) (hc : X.calm = true) (hN : X.N.Nodup) (ok : BlkOk X.N X.env.scope scope own)
    (h : WI X (.Tuple [.Name n q1, .Name n2 q2] kk tpos) iter ρ M fun xs M1 => ∀ Da, M1 Da = none → ∀ (s : Shared) (H : Hp) (C : Addr) (cl : List (Str × Addr)) (fp : List Addr), ForC (Blk X scope s H C cl fp) (own.map (·.2)) (in2 i j) ifs ((CK.lst elt).rest (⟨.Tuple [.Name n q1, .Name n2 q2] kk tpos, iter, ifs, 0⟩ :: ⟨tg1, iter1, ifs1, 0⟩ :: rest) scope pos 1 Da (Blk X scope s H C cl fp).env (some (tg1, iter1, ifs1))) ρ (fun M2 => ∃ ds, M2 Da = some (.lst ds) ∧ Q (.lst ds) (mdel M2 Da)) xs (mset M1 Da (.lst [])))
    (hi : X.N[i]? = some n := by rfl) (hj : X.N[j]? = some n2 := by rfl) (hm : i ∈ own.map (·.2) := by decide) (hm2 : j ∈ own.map (·.2) := by decide) (hx : HX X scope n := by intro _ _ _ _ _; first | exact ⟨.inl rfl, .inr rfl⟩ | exact ⟨.inr rfl, .inl rfl⟩) (hx2 : HX X scope n2 := by intro _ _ _ _ _; first | exact ⟨.inl rfl, .inr rfl⟩ | exact ⟨.inr rfl, .inl rfl⟩)
    (hs : ∀ x, foldedSetIterable iter X.env x = pure x := by intro _; rfl) : WE X (.ListComp elt (⟨.Tuple [.Name n q1, .Name n2 q2] kk tpos, iter, ifs, 0⟩ :: ⟨tg1, iter1, ifs1, 0⟩ :: rest) scope pos) ρ M Q :=
  .mcL (in2 i j) own hc hN ok (bindin_two hm hm2) (fun s H C cl fp => pg_tup hc (pgs_cons (pg_name hN hi (hx s H C cl fp).1 (hx s H C cl fp).2) (pgs_cons (pg_name hN hj (hx2 s H C cl fp).1 (hx2 s H C cl fp).2) pgs_nil))) h hs
theorem WE.mcD1 (i : Nat) (own : List (Str × Nat)) (hc : X.calm = true) (hN : X.N.Nodup) (ok : BlkOk X.N X.env.scope scope own)
    (h : WI X (.Name n tpos) iter ρ M fun xs M1 => ∀ Da, M1 Da = none → ∀ (s : Shared) (H : Hp) (C : Addr) (cl : List (Str × Addr)) (fp : List Addr), ForC (Blk X scope s H C cl fp) (own.map (·.2)) (in1 i) ifs ((CK.dic kx vx).rest (⟨.Name n tpos, iter, ifs, 0⟩ :: ⟨tg1, iter1, ifs1, 0⟩ :: rest) scope pos 1 Da (Blk X scope s H C cl fp).env (some (tg1, iter1, ifs1))) ρ (fun M2 => ∃ ds, M2 Da = some (.dic ds) ∧ Q (.dic ds) (mdel M2 Da)) xs (mset M1 Da (.dic [])))
    (hi : X.N[i]? = some n := by rfl) (hm : i ∈ own.map (·.2) := by decide) (hx : HX X scope n := by intro _ _ _ _ _; first | exact ⟨.inl rfl, .inr rfl⟩ | exact ⟨.inr rfl, .inl rfl⟩)
    (hs : ∀ x, foldedSetIterable iter X.env x = pure x := by intro _; rfl) : WE X (.DictComp kx vx (⟨.Name n tpos, iter, ifs, 0⟩ :: ⟨tg1, iter1, ifs1, 0⟩ :: rest) scope pos) ρ M Q :=
  .mcD (in1 i) own hc hN ok (bindin_name hm) (fun s H C cl fp => pg_name hN hi (hx s H C cl fp).1 (hx s H C cl fp).2) h hs
theorem WE.mcK1 (i : Nat) (own : List (Str × Nat)) (hc : X.calm = true) (hN : X.N.Nodup) (ok : BlkOk X.N X.env.scope scope own)
    (h : WI X (.Name n tpos) iter ρ M fun xs M1 => ∀ Da, M1 Da = none → ∀ (s : Shared) (H : Hp) (C : Addr) (cl : List (Str × Addr)) (fp : List Addr), ForC (Blk X scope s H C cl fp) (own.map (·.2)) (in1 i) ifs ((CK.dic kx vx).rest (⟨.Name n tpos, iter, ifs, 0⟩ :: ⟨tg1, iter1, ifs1, 0⟩ :: rest) scope pos 1 Da (Blk X scope s H C cl fp).env (some (tg1, iter1, ifs1))) ρ (fun M2 => Q (.ref Da) M2) xs (mset M1 Da (.kd X.w [])))
    (hi : X.N[i]? = some n := by rfl) (hm : i ∈ own.map (·.2) := by decide) (hx : HX X scope n := by intro _ _ _ _ _; first | exact ⟨.inl rfl, .inr rfl⟩ | exact ⟨.inr rfl, .inl rfl⟩)
    (hs : ∀ x, foldedSetIterable iter X.env x = pure x := by intro _; rfl) : WE X (.DictComp kx vx (⟨.Name n tpos, iter, ifs, 0⟩ :: ⟨tg1, iter1, ifs1, 0⟩ :: rest) scope pos) ρ M Q :=
  .mcK (in1 i) own hc hN ok (bindin_name hm) (fun s H C cl fp => pg_name hN hi (hx s H C cl fp).1 (hx s H C cl fp).2) h hs
theorem WE.mcK2 (i j : Nat) (own : List (Str × Nat)) (hc : X.calm = true) (hN : X.N.Nodup) (ok : BlkOk X.N X.env.scope scope own)
    (h : WI X (.Tuple [.Name n q1, .Name n2 q2] kk tpos) iter ρ M fun xs M1 => ∀ Da, M1 Da = none → ∀ (s : Shared) (H : Hp) (C : Addr) (cl : List (Str × Addr)) (fp : List Addr), ForC (Blk X scope s H C cl fp) (own.map (·.2)) (in2 i j) ifs ((CK.dic kx vx).rest (⟨.Tuple [.Name n q1, .Name n2 q2] kk tpos, iter, ifs, 0⟩ :: ⟨tg1, iter1, ifs1, 0⟩ :: rest) scope pos 1 Da (Blk X scope s H C cl fp).env (some (tg1, iter1, ifs1))) ρ (fun M2 => Q (.ref Da) M2) xs (mset M1 Da (.kd X.w [])))
    (hi : X.N[i]? = some n := by rfl) (hj : X.N[j]? = some n2 := by rfl) (hm : i ∈ own.map (·.2) := by decide) (hm2 : j ∈ own.map (·.2) := by decide) (hx : HX X scope n := by intro _ _ _ _ _; first | exact ⟨.inl rfl, .inr rfl⟩ | exact ⟨.inr rfl, .inl rfl⟩) (hx2 : HX X scope n2 := by intro _ _ _ _ _; first | exact ⟨.inl rfl, .inr rfl⟩ | exact ⟨.inr rfl, .inl rfl⟩)
    (hs : ∀ x, foldedSetIterable iter X.env x = pure x := by intro _; rfl) : WE X (.DictComp kx vx (⟨.Tuple [.Name n q1, .Name n2 q2] kk tpos, iter, ifs, 0⟩ :: ⟨tg1, iter1, ifs1, 0⟩ :: rest) scope pos) ρ M Q :=
  .mcK (in2 i j) own hc hN ok (bindin_two hm hm2) (fun s H C cl fp => pg_tup hc (pgs_cons (pg_name hN hi (hx s H C cl fp).1 (hx s H C cl fp).2) (pgs_cons (pg_name hN hj (hx2 s H C cl fp).1 (hx2 s H C cl fp).2) pgs_nil))) h hs
end
section
variable {X : Cx} {vs : List Nat} {ρ : En} {M : Mp} {R : En → Mp → Prop} {gens : List Comprehension} {scope : Scope} {pos tpos q1 q2 : Pos} {d : Nat} {Da : Addr} {n n2 : Str} {kk : Nat} {k : CK} {iter : Expr} {ifs : List Expr} {nx : Option (Expr × Expr × List Expr)}
/-- an inner clause of one name, of two -/
theorem WB.loop1 (i : Nat) (hc : X.calm = true) (hN : X.N.Nodup) (h : WI X (.Name n tpos) iter ρ M fun xs M1 => ForB X vs (in1 i) ifs (k.rest gens scope pos (d + 1) Da X.env nx) R xs ρ M1) (hg : gens[d]? = some ⟨.Name n tpos, iter, ifs, 0⟩ := by rfl) (hn : gens[d + 1]? = nx.map clause := by rfl)
    (hxe : X.xe = fun _ _ => False := by rfl) (hi : X.N[i]? = some n := by rfl) (hm : i ∈ vs := by decide) (hx : Loc X.env.scope n ∧ (X.fn n = true ∨ X.env.scope.names.lookup n = some .local) := by first | exact ⟨.inl rfl, .inr rfl⟩ | exact ⟨.inr rfl, .inl rfl⟩)
    (hs : ∀ x, foldedSetIterable iter X.env x = pure x := by intro _; rfl) : WB X vs (k.rest gens scope pos d Da X.env (some (.Name n tpos, iter, ifs))) ρ M R :=
  .loop hg hn hc hxe (pg_name hN hi hx.1 hx.2) (bindin_name hm) hs h
theorem WB.loop2 (i j : Nat) (hc : X.calm = true) (hN : X.N.Nodup) (h : WI X (.Tuple [.Name n q1, .Name n2 q2] kk tpos) iter ρ M fun xs M1 => ForB X vs (in2 i j) ifs (k.rest gens scope pos (d + 1) Da X.env nx) R xs ρ M1) (hg : gens[d]? = some ⟨.Tuple [.Name n q1, .Name n2 q2] kk tpos, iter, ifs, 0⟩ := by rfl) (hn : gens[d + 1]? = nx.map clause := by rfl)
    (hxe : X.xe = fun _ _ => False := by rfl) (hi : X.N[i]? = some n := by rfl) (hj : X.N[j]? = some n2 := by rfl) (hm : i ∈ vs := by decide) (hm2 : j ∈ vs := by decide) (hx : Loc X.env.scope n ∧ (X.fn n = true ∨ X.env.scope.names.lookup n = some .local) := by first | exact ⟨.inl rfl, .inr rfl⟩ | exact ⟨.inr rfl, .inl rfl⟩)
    (hx2 : Loc X.env.scope n2 ∧ (X.fn n2 = true ∨ X.env.scope.names.lookup n2 = some .local) := by first | exact ⟨.inl rfl, .inr rfl⟩ | exact ⟨.inr rfl, .inl rfl⟩)
    (hs : ∀ x, foldedSetIterable iter X.env x = pure x := by intro _; rfl) : WB X vs (k.rest gens scope pos d Da X.env (some (.Tuple [.Name n q1, .Name n2 q2] kk tpos, iter, ifs))) ρ M R :=
  .loop hg hn hc hxe (pg_tup hc (pgs_cons (pg_name hN hi hx.1 hx.2) (pgs_cons (pg_name hN hj hx2.1 hx2.2) pgs_nil))) (bindin_two hm hm2) hs h
/-- .. the last one -/
theorem WB.last1 (i : Nat) (hc : X.calm = true) (hN : X.N.Nodup) (h : WI X (.Name n tpos) iter ρ M fun xs M1 => ForB X vs (in1 i) ifs (k.rest gens scope pos (d + 1) Da X.env none) R xs ρ M1) (hg : gens[d]? = some ⟨.Name n tpos, iter, ifs, 0⟩ := by rfl) (hn : gens[d + 1]? = (none : Option (Expr × Expr × List Expr)).map clause := by rfl)
    (hxe : X.xe = fun _ _ => False := by rfl) (hi : X.N[i]? = some n := by rfl) (hm : i ∈ vs := by decide) (hx : Loc X.env.scope n ∧ (X.fn n = true ∨ X.env.scope.names.lookup n = some .local) := by first | exact ⟨.inl rfl, .inr rfl⟩ | exact ⟨.inr rfl, .inl rfl⟩)
    (hs : ∀ x, foldedSetIterable iter X.env x = pure x := by intro _; rfl) : WB X vs (k.rest gens scope pos d Da X.env (some (.Name n tpos, iter, ifs))) ρ M R :=
  .loop hg hn hc hxe (pg_name hN hi hx.1 hx.2) (bindin_name hm) hs h
theorem WB.last2 (i j : Nat) (hc : X.calm = true) (hN : X.N.Nodup) (h : WI X (.Tuple [.Name n q1, .Name n2 q2] kk tpos) iter ρ M fun xs M1 => ForB X vs (in2 i j) ifs (k.rest gens scope pos (d + 1) Da X.env none) R xs ρ M1) (hg : gens[d]? = some ⟨.Tuple [.Name n q1, .Name n2 q2] kk tpos, iter, ifs, 0⟩ := by rfl) (hn : gens[d + 1]? = (none : Option (Expr × Expr × List Expr)).map clause := by rfl)
    (hxe : X.xe = fun _ _ => False := by rfl) (hi : X.N[i]? = some n := by rfl) (hj : X.N[j]? = some n2 := by rfl) (hm : i ∈ vs := by decide) (hm2 : j ∈ vs := by decide) (hx : Loc X.env.scope n ∧ (X.fn n = true ∨ X.env.scope.names.lookup n = some .local) := by first | exact ⟨.inl rfl, .inr rfl⟩ | exact ⟨.inr rfl, .inl rfl⟩)
    (hx2 : Loc X.env.scope n2 ∧ (X.fn n2 = true ∨ X.env.scope.names.lookup n2 = some .local) := by first | exact ⟨.inl rfl, .inr rfl⟩ | exact ⟨.inr rfl, .inl rfl⟩)
    (hs : ∀ x, foldedSetIterable iter X.env x = pure x := by intro _; rfl) : WB X vs (k.rest gens scope pos d Da X.env (some (.Tuple [.Name n q1, .Name n2 q2] kk tpos, iter, ifs))) ρ M R :=
  .loop hg hn hc hxe (pg_tup hc (pgs_cons (pg_name hN hi hx.1 hx.2) (pgs_cons (pg_name hN hj hx2.1 hx2.2) pgs_nil))) (bindin_two hm hm2) hs h
end
end TL
end
section
set_option maxRecDepth 100000
set_option maxHeartbeats 0
/-! TVl: list(text), extend, str(int), tuple * int, while. -/
namespace TL
open PySem PySem.Spec PyProof.Rows L2
theorem vals_of_get : ∀ {xs : List V} {us : List Value}, xs.length = us.length → (∀ (i : Nat) x u, xs[i]? = some x → us[i]? = some u → RelV x u) → Vals xs us
  | [], [], _, _ => .nil
  | [], _ :: _, e, _ => by cases e
  | _ :: _, [], e, _ => by cases e
  | x :: xs, u :: us, e, h => .cons (h 0 x u rfl rfl) (vals_of_get (by simpa using e) fun i a b h1 h2 => h (i + 1) a b (by simpa using h1) (by simpa using h2))
section
variable {X : Cx} {M : Mp} {ρ : En} {Q : DQ} {pos : Pos}
theorem call_list_txt (hc : X.calm = true) : CallR X (.type "list") (fun xs H Q => ∃ x : Str, xs = [.str x] ∧ x.cps.size ≤ sizeLine ∧ ∀ p, H p = none → Q (.ref p) (upd H p (.lst (strV x)))) := by
  intro pins s σ H xs us Q I r h
  obtain ⟨x, rfl, hz, q⟩ := h
  obtain ⟨u, rfl, t, rfl⟩ := vals1 r
  refine call_list_str (hn := hz) (I.ok.hd hc) x t fun h' tk acc c hk ho hi => ?_
  have hv : Vals (strV x) acc.toList := vals_of_get (by rw [strV_len]; simpa using hi.1.symm) fun i a b h1 h2 => by
    obtain ⟨d, u2, e1, e2⟩ := hi.2 i b (by simpa using h2)
    unfold strV at h1
    rw [List.getElem?_map, Array.getElem?_toList, e1] at h1
    cases h1
    exact ⟨u2, e2⟩
  exact ⟨.ref s.heap.objs.size, _, I.laid (t' := tk) (o := .lst (strV x)) hk (Nat.le_refl _) ⟨by rw [strV_len]; exact hz, acc.toList, c, hv, by simpa using ho⟩, rfl, q _ (I.hok.fresh (Nat.le_refl _))⟩
theorem rep_strV {K : PySem.W.Frag} {F : Hp} (x : List Nat) : Reps K F (strV ⟨x.toArray⟩) (x.map fun c => .str [c]) := by
  have e : strV ⟨x.toArray⟩ = x.map fun c => V.str ⟨#[c]⟩ := by simp [strV]
  rw [e]
  clear e
  induction x with
  | nil => exact .nil
  | cons c x ih => exact .cons (.str [c]) ih
theorem VC.listS (hc : X.calm = true) {x : List Nat} (hz : x.length ≤ sizeLine) (h : Q (.lst (x.map fun c => .str [c])) M) : VC X (.type "list") [.str x] M Q :=
  .call (call_list_txt hc) fun H F vs R p => by
    cases p with
    | cons q p =>
      cases p
      cases q
      refine ⟨_, rfl, by simpa using hz, fun l hl => ?_⟩
      have t := Stp.new (o := .lst (strV ⟨x.toArray⟩)) R hl
      refine ⟨_, M, _, t, .lst (.of upd_same) (t.reps (rep_strV x)), h⟩
/-- list(tuple), to be written -/
theorem VC.listTM {xs : List D} (h : ∀ p, M p = none → Q (.ref p) (mset M p (.lst xs))) : VC X (.type "list") [.tup xs] M Q :=
  .call call_list_of fun H F vs R p => by
    cases p with
    | cons q p =>
      cases p
      cases q with
      | @tup _ ws _ s r =>
        refine ⟨_, ws, rfl, .inr (R.sub.sqT s), fun l hl => ?_⟩
        exact ⟨_, _, _, Stp.newM R hl (.lst r), .ref _, h l (R.free hl)⟩
theorem VM.extend {a b : Addr} {xs ys : List D} (hm : M a = some (.lst xs)) (hb : M b = some (.lst ys)) (hl : xs.length + ys.length ≤ sizeLine) (h : Q .non (mset M a (.lst (xs ++ ys)))) : VM X "list.extend" (.ref a) [.ref b] M Q :=
  .mt mt_extend fun H F v vs R p1 p2 => by
    cases p1
    cases p2 with
    | cons q p2 =>
      cases p2
      cases q
      obtain ⟨ws, hw, r⟩ := R.lst hm
      obtain ⟨zs, hz, r2⟩ := R.lst hb
      refine ⟨a, b, ws, zs, rfl, rfl, hw, hz, by rw [r.length, r2.length]; exact hl, F, _, _, Stp.write R hm (.lst (r.append r2)), .non, h⟩
theorem VC.strI {i : Int} (hz : i.natAbs.log2 < 1920) (h : Q (.str (lit (toString i))) M) : VC X (.type "str") [.int i] M Q :=
  .call call_str_int fun H F vs R p => by
    cases p with
    | cons q p =>
      cases p
      cases q
      refine ⟨i, rfl, hz, F, M, _, Stp.refl R, ?_, h⟩
      have e : (toString i : Str) = ⟨(lit (toString i)).toArray⟩ := lit_eq _
      rw [e]
      exact .str _
theorem VO.mulT {xs : List D} {k : Int} (hne : xs ≠ []) (h1 : 2 ≤ k) (h2 : k ≤ 1000) (hz : xs.length ≤ 1000) (h : Q (.tup (List.replicate k.toNat xs).flatten) M) : VO X (binaryOp .Mult) (.tup xs) (.int k) M Q :=
  .op op_repT fun H F v1 v2 R r1 r2 => by
    cases r2
    cases r1 with
    | @tup a ws _ s r =>
      refine ⟨a, k, ws, rfl, rfl, R.sub.sqT s, fun e => hne (by subst e; cases r; rfl), h1, h2, by rw [r.length]; exact hz, fun p hp => ?_⟩
      have t := Stp.new (o := .tup (List.replicate k.toNat ws).flatten) R hp
      refine ⟨_, M, _, t, .tup (.of upd_same) (t.reps ?_), h⟩
      generalize k.toNat = n
      induction n with
      | zero => exact .nil
      | succ n ih => rw [List.replicate_succ, List.replicate_succ, List.flatten_cons, List.flatten_cons]; exact r.append ih
/-- while -/
theorem WS.while {c : Expr} {body : List Stmt} {E : TEs} (hp : PassesOwn (model X.prog X.w) X.A X.env X.xe) (W : Nat → En → Mp → Prop) (m : Nat) (h0 : W m ρ M)
    (turn : ∀ m ρ M, W m ρ M → WT X c ρ M fun b M1 => (b = true → WSs X body ρ M1 { E with nx := fun ρ' M' => ∃ m', m' < m ∧ W m' ρ' M', ct := fun ρ' M' => ∃ m', m' < m ∧ W m' ρ' M', bk := E.nx }) ∧ (b = false → E.nx ρ M1)) :
    WS X (.While c body [] pos) ρ M E :=
  .ps (ps_while hp lTT_ok lTS_ok) fun σ0 H0 F0 S0 => by
    refine ⟨fun m σ H => ∃ F M' ρ', Stp X.K H0 F0 M H F M' ∧ Sim X.K H F M' σ ρ' ∧ W m ρ' M', ⟨m, F0, M, ρ, Stp.refl S0.good, S0, h0⟩, ?_⟩
    rintro m σ H ⟨F, M', ρ', t, S, w⟩
    refine ⟨F, M', ρ', _, S, turn m ρ' M' w, fun b H1 F1 M1 t1 q => ?_⟩
    cases b with
    | false =>
      rw [if_neg Bool.false_ne_true]
      exact ⟨F1, M1, ρ', t.trans t1, S.step t1, q.2 rfl⟩
    | true =>
      rw [if_pos rfl]
      refine ⟨fun σ' H' => ∃ m', m' < m ∧ ∃ F M'' ρ'', Stp X.K H0 F0 M H' F M'' ∧ Sim X.K H' F M'' σ' ρ'' ∧ W m' ρ'' M'', fun σ' H' ⟨m', hm, r⟩ => ⟨m', hm, r⟩, ?_⟩
      refine ⟨F1, M1, ρ', _, S.step t1, q.1 rfl, fun σ2 H2 ⟨F2, M2, ρ2, t2, S2, m', hm, w2⟩ => ⟨m', hm, F2, M2, ρ2, (t.trans t1).trans t2, S2, w2⟩, fun v H2 z => z.back (t.trans t1), fun σ2 H2 z => z.back (t.trans t1), fun σ2 H2 ⟨F2, M2, ρ2, t2, S2, m', hm, w2⟩ => ⟨m', hm, F2, M2, ρ2, (t.trans t1).trans t2, S2, w2⟩⟩
end
end TL
end
section
set_option maxRecDepth 100000
set_option maxHeartbeats 0
/-! TVm: values of any kind that a law bends. -/
namespace TL
open PySem PySem.Spec PyProof.Rows L2
mutual
/-- values of any kind: texts and rows of at most n, integers of some forty digits, empty dicts -/
def vl (n : Nat) : D → Bool
  | .non | .bl _ => true
  | .int i => decide (i.natAbs ≤ 10 ^ 39 + n)
  | .str x => decide (x.length ≤ n) && x.all fun c => decide (c < 128)
  | .tup xs => decide (xs.length ≤ n) && vls n xs
  | .lst xs => decide (xs.length ≤ n) && vls n xs
  | .dic kvs => kvs.isEmpty
  | .ty _ | .ref _ | .ins _ _ | .xn _ _ _ | .tun _ => false
def vls (n : Nat) : List D → Bool
  | [] => true
  | d :: ds => vl n d && vls n ds
end
def isStr : D → Bool
  | .str _ => true
  | _ => false
def isTup : D → Bool
  | .tup _ => true
  | _ => false
def isBl : D → Bool
  | .bl _ => true
  | _ => false
def isNum : D → Bool
  | .int _ | .bl _ => true
  | _ => false
structure Kinds (d : D) (t : String) : Prop where
  ty : tyD d = some t
  str : kitB t "str" = some (isStr d)
  tup : kitB t "tuple" = some (isTup d)
  int : kitB t "int" = some (isNum d)
  bool : kitB t "bool" = some (isBl d)
theorem vl_ty {n : Nat} {d : D} (h : vl n d = true) : ∃ t, Kinds d t := by
  cases d with
  | non => exact ⟨"NoneType", rfl, rfl, rfl, rfl, rfl⟩
  | bl b => exact ⟨"bool", rfl, rfl, rfl, rfl, rfl⟩
  | int i => exact ⟨"int", rfl, rfl, rfl, rfl, rfl⟩
  | str x => exact ⟨"str", rfl, rfl, rfl, rfl, rfl⟩
  | tup x => exact ⟨"tuple", rfl, rfl, rfl, rfl, rfl⟩
  | lst x => exact ⟨"list", rfl, rfl, rfl, rfl, rfl⟩
  | dic x => exact ⟨"dict", rfl, rfl, rfl, rfl, rfl⟩
  | _ => simp [vl] at h
theorem vls_mem {n : Nat} : ∀ {ds : List D}, vls n ds = true ↔ ∀ d ∈ ds, vl n d = true
  | [] => by simp [vls]
  | d :: ds => by simp [vls, vls_mem (ds := ds)]
theorem vl_str {n : Nat} {x : List Nat} (h : vl n (.str x) = true) : x.length ≤ n ∧ ∀ c ∈ x, c < 128 := by simpa [vl] using h
theorem vl_tup {n : Nat} {xs : List D} (h : vl n (.tup xs) = true) : xs.length ≤ n ∧ ∀ d ∈ xs, vl n d = true := by
  simp only [vl, Bool.and_eq_true, decide_eq_true_eq, vls_mem] at h; exact h
theorem vl_lst {n : Nat} {xs : List D} (h : vl n (.lst xs) = true) : xs.length ≤ n ∧ ∀ d ∈ xs, vl n d = true := by
  simp only [vl, Bool.and_eq_true, decide_eq_true_eq, vls_mem] at h; exact h
/-- signs -/
abbrev sgD (c : Nat) : D := .str [c]
theorem eqD_sgs (l m : List Nat) : TL.eqD (.lst (l.map sgD)) (.lst (m.map sgD)) = decide (l = m) := by
  show PyData.eqv (py (.lst (l.map sgD))) (py (.lst (m.map sgD))) = _
  simp only [py, PyData.eqv]
  induction l generalizing m with
  | nil => cases m <;> simp [pys, PyData.eqvAll]
  | cons a l ih =>
    cases m with
    | nil => simp [pys, PyData.eqvAll]
    | cons b m =>
      simp only [List.map_cons, pys, PyData.eqvAll, ih, py, PyData.eqv]
      by_cases h : a = b <;> by_cases h2 : l = m <;> simp [h, h2]
theorem shp_sgs {l : List Nat} (h : ∀ c ∈ l, c < 128) : shp (.lst (l.map sgD)) = true := by
  refine shp_of ?_ ?_
  · simp only [isS]
    refine areS_of fun d hd => ?_
    obtain ⟨c, hc, rfl⟩ := List.mem_map.mp hd
    have := h c hc
    show PyData.strOk ⟨[c].toArray⟩ = true
    unfold PyData.strOk
    simp only [List.all_toArray, List.all_eq_true, decide_eq_true_eq]
    intro x hx
    rw [List.mem_singleton.mp hx]
    omega
  · have e : deps (l.map sgD) ≤ 0 := deps_le fun d hd => by
      obtain ⟨c, hc, rfl⟩ := List.mem_map.mp hd
      simp [dep]
    simp only [dep]; omega
theorem eqD_lints (l m : List Int) : TL.eqD (.lst (l.map D.int)) (.lst (m.map D.int)) = decide (l = m) := by
  show PyData.eqv (py (.lst (l.map D.int))) (py (.lst (m.map D.int))) = _
  simp only [py, PyData.eqv]
  induction l generalizing m with
  | nil => cases m <;> simp [pys, PyData.eqvAll]
  | cons a l ih =>
    cases m with
    | nil => simp [pys, PyData.eqvAll]
    | cons b m =>
      simp only [List.map_cons, pys, PyData.eqvAll, ih, py, PyData.eqv]
      by_cases h : a = b <;> by_cases h2 : l = m <;> simp [h, h2]
section
variable {X : Cx} {M : Mp} {Q : DQ}
theorem op_neT0 (hu : X.A.units < cLine) : OpR X (compareOp .NotEq) (fun x y H Q => ∃ a b xs, x = .ref a ∧ y = .ref b ∧ SqT X.K H a xs ∧ SqT X.K H b [] ∧ Q (.bl (!decide (xs = []))) H) := by
  intro pins s σ H x y v u Q I rx ry h
  obtain ⟨a, b, xs, rfl, rfl, h1, h2, q⟩ := h
  cases rx
  cases ry
  obtain ⟨its, r, t1, _⟩ := I.tuple h1
  obtain ⟨its2, r2, t2, _⟩ := I.tuple h2
  cases r2
  refine SeqAt.RcNeAt.tuples (e := fun _ => true) t1 t2 hu (fun j _ z => absurd z (Nat.not_lt_zero j)) _ _ _ _ ⟨.bl (!decide (xs = [])), H, I, ?_, q⟩
  cases r with
  | nil => rfl
  | cons a r => simp [L2.RelV]
theorem VO.neT0 {xs : List D} (hu : X.A.units < cLine) (h : Q (.bl (!decide (xs = []))) M) : VO X (compareOp .NotEq) (.tup xs) (.tup []) M Q :=
  .op (op_neT0 hu) fun H F v1 v2 R r1 r2 => by
    cases r1 with
    | @tup a ws _ s r =>
      cases r2 with
      | @tup b us _ s2 r2 =>
        cases r2
        have e : (ws = []) ↔ (xs = []) := by cases r <;> simp
        refine ⟨a, b, ws, rfl, rfl, R.sub.sqT s, R.sub.sqT s2, F, M, _, Stp.refl R, .bl _, ?_⟩
        simp only [e]
        exact h
theorem op_eqT0 (hu : X.A.units < cLine) : OpR X (compareOp .Eq) (fun x y H Q => ∃ a b xs, x = .ref a ∧ y = .ref b ∧ SqT X.K H a xs ∧ SqT X.K H b [] ∧ Q (.bl (decide (xs = []))) H) := by
  intro pins s σ H x y v u Q I rx ry h
  obtain ⟨a, b, xs, rfl, rfl, h1, h2, q⟩ := h
  cases rx
  cases ry
  obtain ⟨its, r, t1, _⟩ := I.tuple h1
  obtain ⟨its2, r2, t2, _⟩ := I.tuple h2
  cases r2
  refine SeqAt.RcAt.tuples (e := fun _ => true) t1 t2 hu (fun j _ z => absurd z (Nat.not_lt_zero j)) _ _ _ _ ⟨.bl (decide (xs = [])), H, I, ?_, q⟩
  cases r with
  | nil => rfl
  | cons a r => simp [L2.RelV]
theorem VO.eqT0 {xs : List D} (hu : X.A.units < cLine) (h : Q (.bl (decide (xs = []))) M) : VO X (compareOp .Eq) (.tup xs) (.tup []) M Q :=
  .op (op_eqT0 hu) fun H F v1 v2 R r1 r2 => by
    cases r1 with
    | @tup a ws _ s r =>
      cases r2 with
      | @tup b us _ s2 r2 =>
        cases r2
        have e : (ws = []) ↔ (xs = []) := by cases r <;> simp
        refine ⟨a, b, ws, rfl, rfl, R.sub.sqT s, R.sub.sqT s2, F, M, _, Stp.refl R, .bl _, ?_⟩
        simp only [e]
        exact h
end
end TL
end
section
set_option maxRecDepth 100000
set_option maxHeartbeats 0
/-! K82H: presses. -/
namespace K82
open PySem PySem.Spec PyProof.Rows L2 TL
open He (ga ma fAd)
/-- a press: an ascending text of the loom's letters -/
def pressT (m : Nat) (t : List Nat) : Bool := (t.all fun c => decide (c ∈ alpha.take m)) && decide (t = sortN (uniq [] t))
def pressB (m : Nat) : D → Bool
  | .str t => pressT m t
  | _ => false
theorem press_no {m : Nat} {d : D} (h : isStr d = false) : pressB m d = false := by
  cases d with
  | str t => simp [isStr] at h
  | _ => rfl
def pressesB (m : Nat) : D → Bool
  | .tup (d :: ds) => (d :: ds).all (pressB m)
  | _ => false
section
variable {w : World} {K : PySem.W.Frag} {mg : Str → Option Value} {base : Heap} {M : Mp} {Q : DQ}
theorem t_is_press (c : E82 w K mg base) {v : LW} {d : D} {n : Nat} (hv : vl n d = true) (hn : n ≤ 1000) (h : Q (.bl (pressB v.lifts.length d)) M) : TFn P82 w K mg base 2 (ga K "is_press") (fdOf K ("is_press", none)) ["loom", "thing"] [loomD K v, d] M Q := by
  refine TFn.of c.f_is_press s_is_press rfl fun cdv A outer s H F hr => ?_
  have hs := sizeLine_eq
  have hu : (A.deeper (envOfC "is_press" q_is_press s.heap.objs.size (ga K "is_press") cdv)).units + 64 < cLine := hr.room.units
  obtain ⟨ty, kd⟩ := vl_ty hv
  refine .cons <| .ite <| .ww <| .or <| .not <| .val <| .callB c.n_isinstance rfl <| .cons <| .var 1 rfl <| .cons <| .ty c.n_str rfl <| .nil <| VC.isi kd.ty kd.str ⟨_, rfl, ?_⟩
  cases hd : isStr d with
  | false =>
    refine ⟨fun _ => ⟨fun _ => .one <| .ret <| .bl ?_, fun z => nomatch z⟩, fun z => nomatch z⟩
    rw [press_no hd] at h
    exact h
  | true =>
    cases d with
    | str t =>
      obtain ⟨tl, tc⟩ := vl_str hv
      refine ⟨fun z => (nomatch z), fun _ => .or1 <| .not <| .val <| .callB c.n_all rfl <| .cons ?_⟩
      refine WE.lc1 2 [("letter", 2)] rfl s_is_press.nd (show BlkOk n_is_press q_is_press _ _ from ⟨rfl, by decide +kernel, by decide +kernel, by decide +kernel, by decide +kernel⟩) ?_
      refine WI.str (.var 1 rfl ⟨_, rfl, ?_⟩)
      refine CompT.map (fun d => match d with | .str [x] => .bl (decide (x ∈ alpha.take v.lifts.length)) | _ => .non) (fun x hx => ?_) (by simp; omega) (.nil ?_)
      · obtain ⟨i, hi, rfl⟩ := List.mem_map.mp hx
        refine ⟨_, rfl, fun s H C cl fp => .cmp (.var 2 rfl (.fld (.var 0 rfl ⟨_, v.insF, _, rfl, c.cls_Loom, c.no_Loom_letters, by rfl, .inSign ⟨rfl, rfl⟩⟩)))⟩
      have e : (t.map fun x => D.str [x]).map (fun d => match d with | .str [x] => D.bl (decide (x ∈ alpha.take v.lifts.length)) | _ => .non) = (t.map fun x => decide (x ∈ alpha.take v.lifts.length)).map D.bl := by rw [List.map_map, List.map_map]; rfl
      rw [List.nil_append, e]
      refine VC.all rfl ⟨_, rfl, ?_⟩
      have e2 : ((t.map fun x => decide (x ∈ alpha.take v.lifts.length)).all fun b => b) = t.all fun c => decide (c ∈ alpha.take v.lifts.length) := by rw [List.all_map]; rfl
      rw [e2]
      have h : Q (.bl (pressT v.lifts.length t)) M := h
      unfold pressT at h
      cases ha : t.all fun c => decide (c ∈ alpha.take v.lifts.length) with
      | false =>
        rw [ha] at h
        exact ⟨fun _ => .one <| .ret <| .bl h, fun z => nomatch z⟩
      | true =>
        rw [ha, Bool.true_and] at h
        refine ⟨fun z => (nomatch z), fun _ => ?_⟩
        refine .done ?_
        refine .one <| .ret <| .cmp <| .callTy c.n_list rfl <| .cons <| .var 1 rfl <| .nil <| VC.listS rfl (by omega) ?_
        refine WE.sortedSetS rfl c.n_sorted c.n_set <| .var 1 rfl ⟨t, rfl, by show _ < 4096; omega, ?_⟩
        refine VO.eqD hu (shp_sgs tc) (shp_sgs fun x hx => tc x (mem_sU.mp hx)) ?_
        rw [show (fun c => D.str [c]) = sgD from rfl, eqD_sgs]
        exact h
    | _ => simp [isStr] at hd
theorem t_are_presses (c : E82 w K mg base) {v : LW} {d : D} {n : Nat} (hv : vl n d = true) (hn : n ≤ 1000) (h : Q (.bl (pressesB v.lifts.length d)) M) : TFn P82 w K mg base 3 (ga K "are_presses") (fdOf K ("are_presses", none)) ["loom", "thing"] [loomD K v, d] M Q := by
  refine TFn.of c.f_are_presses s_are_presses rfl fun cdv A outer s H F hr => ?_
  have hs := sizeLine_eq
  have hu : (A.deeper (envOfC "are_presses" q_are_presses s.heap.objs.size (ga K "are_presses") cdv)).units + 64 < cLine := hr.room.units
  obtain ⟨ty, kd⟩ := vl_ty hv
  refine .one <| .ret <| .and <| .callB c.n_isinstance rfl <| .cons <| .var 1 rfl <| .cons <| .ty c.n_tuple rfl <| .nil <| VC.isi kd.ty kd.tup ⟨_, rfl, ?_⟩
  cases d with
  | tup xs =>
    obtain ⟨xl, xv⟩ := vl_tup hv
    refine ⟨fun z => (nomatch z), fun _ => .and <| .cmp <| .var 1 rfl <| .tuple <| .nil ⟨by decide, ?_⟩⟩
    refine VO.neT0 (Nat.lt_of_le_of_lt (Nat.le_add_right _ 64) hu) ⟨_, rfl, ?_⟩
    cases xs with
    | nil => exact ⟨fun _ => h, fun z => nomatch z⟩
    | cons x xs =>
      refine ⟨fun z => (nomatch z), fun _ => .one <| .callB c.n_all rfl <| .cons ?_⟩
      refine WE.lc1 2 [("item", 2)] rfl s_are_presses.nd (show BlkOk n_are_presses q_are_presses _ _ from ⟨rfl, by decide +kernel, by decide +kernel, by decide +kernel, by decide +kernel⟩) ?_
      refine WI.tup <| .var 1 rfl ⟨_, rfl, ?_⟩
      refine CompT.map (fun d => .bl (pressB v.lifts.length d)) (fun y hy => ?_) (by simp at xl ⊢; omega) (.nil ?_)
      · exact ⟨_, rfl, fun s H C cl fp => .call (hr.mono (j := 2) (by omega)) c.g_is_press c.f_is_press.kp c.b_is_press <| .cons <| .var 0 rfl <| .cons <| .var 2 rfl <| .nil <| t_is_press c (xv y hy) hn ⟨rfl, rfl⟩⟩
      have e : (x :: xs).map (fun d => D.bl (pressB v.lifts.length d)) = ((x :: xs).map (pressB v.lifts.length)).map D.bl := by rw [List.map_map]; rfl
      rw [List.nil_append, e]
      refine VC.all rfl ?_
      rw [List.all_map]
      exact h
  | _ => exact ⟨fun _ => h, fun z => nomatch z⟩
end
end K82
end
section
set_option maxRecDepth 100000
set_option maxHeartbeats 0
/-! TCm: clauses by the part taken; numbers of what meets a test. -/
namespace TL
open PySem PySem.Spec PyProof.Rows L2
section
variable {X : Cx} {vs : List Nat} {ρ : En} {M : Mp} {bind : D → En → Option En} {ifs : List Expr} {m : Sem Unit}
theorem WTs.imp {Q Q' : Bool → Mp → Prop} (h : WTs X ifs ρ M Q) (q : ∀ b M', Q b M' → Q' b M') : WTs X ifs ρ M Q' :=
  ⟨fun pins s σ H F I S => thn (h.run pins s σ H F I S) fun b s1 ⟨H1, F1, M1, I1, t1, e⟩ => ⟨H1, F1, M1, I1, t1, q _ _ e⟩⟩
theorem WB.imp {R R' : En → Mp → Prop} (h : WB X vs m ρ M R) (q : ∀ ρ' M', R ρ' M' → R' ρ' M') : WB X vs m ρ M R' :=
  ⟨fun pins s σ H F I S => thn (h.run pins s σ H F I S) fun u s1 ⟨σ1, H1, I1, w1, F1, M1, ρ1, t1, S1, r⟩ => ⟨σ1, H1, I1, w1, F1, M1, ρ1, t1, S1, q _ _ r⟩⟩
theorem ForB.step {R : En → Mp → Prop} {α : Type} (f : α → D) (P : List α → En → Mp → Prop) {items : List α}
    (st : ∀ pre a post ρ M, items = pre ++ a :: post → P pre ρ M → ∃ ρ1, bind (f a) ρ = some ρ1 ∧ WTs X ifs ρ1 M fun b M1 => (b = false → P (pre ++ [a]) ρ1 M1) ∧ (b = true → WB X vs m ρ1 M1 (P (pre ++ [a]))))
    (fin : ∀ ρ M, P items ρ M → R ρ M) (h0 : P [] ρ M) : ForB X vs bind ifs m R (items.map f) ρ M := by
  have key : ∀ (post pre : List α) (ρ : En) (M : Mp), items = pre ++ post → P pre ρ M → ForB X vs bind ifs m R (post.map f) ρ M := by
    intro post
    induction post with
    | nil =>
      intro pre ρ M e p
      rw [List.append_nil] at e
      subst e
      exact ⟨ρ, Le.refl ρ, fin ρ M p⟩
    | cons x post ih =>
      intro pre ρ M e p
      obtain ⟨ρ1, eb, w⟩ := st pre x post ρ M e p
      have e' : items = (pre ++ [x]) ++ post := by rw [e, List.append_assoc]; rfl
      exact ⟨ρ1, eb, w.imp fun b M1 ⟨q1, q2⟩ => ⟨fun z => ih _ _ _ e' (q1 z), fun z => (q2 z).imp fun ρ' M' r => ih _ _ _ e' r⟩⟩
  exact key items [] ρ M rfl h0
theorem ForC.step {R : Mp → Prop} {α : Type} (f : α → D) (P : List α → Mp → Prop) {items : List α}
    (st : ∀ pre a post M, items = pre ++ a :: post → P pre M → ∃ ρ1, bind (f a) (wipeE ρ vs) = some ρ1 ∧ WTs X ifs ρ1 M fun b M1 => (b = false → P (pre ++ [a]) M1) ∧ (b = true → WB X vs m ρ1 M1 fun _ M2 => P (pre ++ [a]) M2))
    (fin : ∀ M, P items M → R M) (h0 : P [] M) : ForC X vs bind ifs m ρ R (items.map f) M := by
  have key : ∀ (post pre : List α) (M : Mp), items = pre ++ post → P pre M → ForC X vs bind ifs m ρ R (post.map f) M := by
    intro post
    induction post with
    | nil =>
      intro pre M e p
      rw [List.append_nil] at e
      subst e
      exact fin M p
    | cons x post ih =>
      intro pre M e p
      obtain ⟨ρ1, eb, w⟩ := st pre x post M e p
      have e' : items = (pre ++ [x]) ++ post := by rw [e, List.append_assoc]; rfl
      exact ⟨ρ1, eb, w.imp fun b M1 ⟨q1, q2⟩ => ⟨fun z => ih _ _ e' (q1 z), fun z => (q2 z).imp fun ρ' M' r => ih _ _ e' r⟩⟩
  exact key items [] M rfl h0
end
/-- the numbers of those that meet a test -/
def ixs {α : Type} (q : α → Bool) (xs : List α) : List Nat := (List.range xs.length).filter fun i => match xs[i]? with
  | some x => q x
  | none => false
theorem mem_ixs {α : Type} {q : α → Bool} {xs : List α} {i : Nat} : i ∈ ixs q xs ↔ ∃ x, xs[i]? = some x ∧ q x = true := by
  unfold ixs
  rw [List.mem_filter, List.mem_range]
  constructor
  · rintro ⟨h1, h2⟩
    rw [List.getElem?_eq_getElem h1] at h2 ⊢
    exact ⟨_, rfl, h2⟩
  · rintro ⟨x, h1, h2⟩
    refine ⟨(List.getElem?_eq_some_iff.mp h1).1, ?_⟩
    rw [h1]
    exact h2
theorem ixs_len {α : Type} {q : α → Bool} {xs : List α} : (ixs q xs).length ≤ xs.length := by
  unfold ixs
  exact Nat.le_trans (List.length_filter_le _ _) (by simp)
theorem ixs_lt {α : Type} {q : α → Bool} {xs : List α} : (ixs q xs).Pairwise (· < ·) := List.Pairwise.filter _ List.pairwise_lt_range
/-- numbers as data -/
abbrev natsD (l : List Nat) : List D := l.map fun (i : Nat) => D.int (i : Int)
section
variable {X : Cx} {scope : Scope} {elt c : Expr} {bind : D → Option En} {Q : DQ} {M : Mp} {α : Type}
/-- [number for number, x in enumerate(..) if ..] -/
theorem CompT.ixs {f : α → D} (q : α → Bool) {xs : List α} (h : ∀ (i : Nat) x, xs[i]? = some x → ∃ ρ1, bind (.tup [.int (i : Int), f x]) = some ρ1 ∧ (∀ s H C cl fp, WT (Blk X scope s H C cl fp) c ρ1 M fun b M' => b = q x ∧ M' = M) ∧ ∀ s H C cl fp, WE (Blk X scope s H C cl fp) elt ρ1 M fun y M' => y = .int (i : Int) ∧ M' = M)
    (hl : xs.length ≤ sizeLine) (hq : Q (.lst (natsD (TL.ixs q xs))) M) : CompT X scope elt [c] bind Q (enD (xs.map f)) [] M := by
  refine CompT.filter (fun d => match d with
    | .tup [.int i, _] => match xs[i.toNat]? with
      | some x => q x
      | none => false
    | _ => false) (fun d => match d with
    | .tup [.int i, _] => .int i
    | _ => .non) (fun d hd => ?_) (by rw [enD_len]; simpa using hl) ?_
  · obtain ⟨i, hi, rfl⟩ := List.mem_map.mp hd
    have hi : i < xs.length := by simpa using hi
    obtain ⟨ρ1, e, t, w⟩ := h i xs[i] (List.getElem?_eq_getElem hi)
    have e1 : (xs.map f).getD i .non = f xs[i] := by simp [List.getD_eq_getElem?_getD, hi]
    rw [e1]
    refine ⟨ρ1, e, ?_, fun _ => w⟩
    have e2 : (match xs[(i : Int).toNat]? with
      | some x => q x
      | none => false) = q xs[i] := by simp [hi]
    simp only [e2]
    exact t
  · rw [List.nil_append]
    have e3 : ((enD (xs.map f)).filter (fun d => match d with
      | .tup [.int i, _] => match xs[i.toNat]? with
        | some x => q x
        | none => false
      | _ => false)).map (fun d => match d with
      | .tup [.int i, _] => D.int i
      | _ => .non) = natsD (TL.ixs q xs) := by
      unfold enD TL.ixs natsD
      rw [List.length_map, List.filter_map, List.map_map]
      rfl
    rw [e3]
    exact hq
end
end TL
end
section
set_option maxRecDepth 100000
set_option maxHeartbeats 0
/-! TCx: loops whose body may raise. -/
namespace TL
open PySem PySem.Spec PyProof.Rows L2
section
variable {X : Cx} {ρ : En} {M : Mp} {tg : Expr} {pos : Pos}
theorem WSsX.imp {sts : List Stmt} {E E' : TEs} {EX : XDX} (h : WSsX X sts ρ M E EX) (h1 : ∀ ρ M, E.nx ρ M → E'.nx ρ M) (h2 : ∀ d M, E.rt d M → E'.rt d M) (h3 : ∀ ρ M, E.bk ρ M → E'.bk ρ M) (h4 : ∀ ρ M, E.ct ρ M → E'.ct ρ M) : WSsX X sts ρ M E' EX :=
  ⟨fun pins s σ H F I S tk => thn (h.run pins s σ H F I S tk) fun f s' q => SP.imp q (fun _ _ ⟨a, b, c, d, e, r⟩ => ⟨a, b, c, d, e, h1 _ _ r⟩) (fun _ _ ⟨a, b, c, d, e, r⟩ => ⟨a, b, c, d, e, h2 _ _ r⟩) (fun _ _ ⟨a, b, c, d, e, r⟩ => ⟨a, b, c, d, e, h3 _ _ r⟩) (fun _ _ ⟨a, b, c, d, e, r⟩ => ⟨a, b, c, d, e, h4 _ _ r⟩)⟩
def lTSX (X : Cx) (sts : List Stmt) : TS := fun D σ H => ∃ F M ρ E EX, Sim X.K H F M σ ρ ∧ Takes X (xW X.K H F M EX) ∧ WSsX X sts ρ M E EX ∧ (∀ σ' H', NEnd X H F M E.nx σ' H' → D.nx σ' H') ∧ (∀ v H', REnd X H F M E.rt v H' → D.rt v H') ∧
  (∀ σ' H', NEnd X H F M E.bk σ' H' → D.bk σ' H') ∧ (∀ σ' H', NEnd X H F M E.ct σ' H' → D.ct σ' H')
theorem lTSX_ok {sts : List Stmt} : PSs X sts (lTSX X sts) :=
  ⟨fun pins s σ H D I ⟨F, M, ρ, E, EX, S, tk, h, h1, h2, h3, h4⟩ => thn (h.run pins s σ H F I S tk) fun _ _ q => SP.imp q h1 h2 h3 h4⟩
def ForTX (X : Cx) (tg : Expr) (body : List Stmt) (E : TEs) (EX : XDX) : List D → En → Mp → Prop
  | [], ρ, M => ∃ ρt, Le ρt ρ ∧ E.nx ρt M
  | x :: xs, ρ, M => WG X tg x ρ M fun ρ1 M1 => WSsX X body ρ1 M1 { nx := ForTX X tg body E EX xs, ct := ForTX X tg body E EX xs, rt := E.rt, bk := E.nx } EX
theorem WSX.for {EX : XDX} {iter : Expr} {body : List Stmt} {E : TEs} (hp : PassesOwn (model X.prog X.w) X.A X.env X.xe) (hc : X.calm = true) (h : WI X tg iter ρ M fun xs M1 => ForTX X tg body E EX xs ρ M1)
    (hs : ∀ x, foldedSetIterable iter X.env x = pure x := by intro _; rfl) : WSX X (.For tg iter body [] pos) ρ M E EX := by
  obtain ⟨wi, hi, h⟩ := h
  refine ⟨fun pins s0 σ0 H0 F0 I0 S0 tk => (ps_for hp hc hi lTG_ok lTSX_ok hs).run pins s0 σ0 H0 _ I0 ?_⟩
  -- the reading of what is walked, then the loop
  have key : ∀ J H1, (∃ F1 M1 xs, Stp X.K H0 F0 M H1 F1 M1 ∧ Walks X.K J H1 F1 M1 xs ∧ ForTX X tg body E EX xs ρ M1) →
      ∃ W : Nat → Nat → SS → Hp → Prop, (∃ m, W 0 m σ0 H1) ∧ ∀ i m σ H, W i m σ H →
        (J.stop i H ∧ (E.ends X H0 F0 M).nx σ H) ∨ (J.go i H ∧ ∃ N : SS → Hp → Prop, (∀ σ' H', N σ' H' → ∃ m', m' < m ∧ W (i + 1) m' σ' H') ∧ ∀ x H', J.yld i H x H' → lTG X tg x σ H' fun σ2 H2 => lTSX X body { (E.ends X H0 F0 M) with nx := N, ct := N, bk := (E.ends X H0 F0 M).nx } σ2 H2) := by
    intro J H1 ⟨F1, M1, xs, t1, wk, ft⟩
    let St : Nat → SS → Hp → Prop := fun i σ H => ∃ F M' ρ', Stp X.K H1 F1 M1 H F M' ∧ Sim X.K H F M' σ ρ' ∧ ForTX X tg body E EX (xs.drop i) ρ' M'
    refine ⟨fun i m σ H => m = xs.length - i ∧ i ≤ xs.length ∧ St i σ H, ⟨xs.length, by simp, Nat.zero_le _, F1, M1, ρ, Stp.refl t1.good, S0.step t1, ft⟩, ?_⟩
    rintro i m σ H ⟨rfl, hi, F, M', ρ', t2, S2, f2⟩
    by_cases hlt : i < xs.length
    · obtain ⟨hgo, hy⟩ := (wk i H F M' t2).1 hlt
      refine .inr ⟨hgo, St (i + 1), fun σ' H' p => ⟨_, by omega, rfl, hlt, p⟩, fun x H' y => ?_⟩
      obtain ⟨F3, d, hd, t3, rp⟩ := hy x H' y
      have ed : xs.drop i = d :: xs.drop (i + 1) := by
        rw [List.drop_eq_getElem_cons hlt]
        have := List.getElem?_eq_getElem hlt
        rw [hd] at this
        rw [Option.some.inj this]
      rw [ed] at f2
      refine ⟨F3, M', ρ', d, _, S2.step t3, rp, f2, fun σ4 H4 ⟨F4, M4, ρ4, t4, S4, w4⟩ => ⟨F4, M4, ρ4, _, EX, S4, tk_back tk (((t1.trans t2).trans t3).trans t4), w4, fun σ5 H5 ⟨F5, M5, ρ5, t5, S5, q5⟩ => ?_, fun v5 H5 q5 => ?_, fun σ5 H5 q5 => ?_, fun σ5 H5 ⟨F5, M5, ρ5, t5, S5, q5⟩ => ?_⟩⟩
      · exact ⟨F5, M5, ρ5, ((t2.trans t3).trans t4).trans t5, S5, q5⟩
      · exact q5.back (((t1.trans t2).trans t3).trans t4)
      · exact q5.back (((t1.trans t2).trans t3).trans t4)
      · exact ⟨F5, M5, ρ5, ((t2.trans t3).trans t4).trans t5, S5, q5⟩
    · have e : i = xs.length := by omega
      subst e
      rw [List.drop_length] at f2
      obtain ⟨ρt, l, q⟩ := f2
      exact .inl ⟨(wk _ H F M' t2).2 rfl, F, M', ρt, t1.trans t2, S2.le l, q⟩
  exact h σ0 H0 F0 S0 _ fun J H1 F1 M1 xs t w q => key J H1 ⟨F1, M1, xs, t, w, q⟩
theorem ForTX.map {body : List Stmt} {E : TEs} {EX : XDX} {α : Type} (f : α → D) (P : List α → En → Mp → Prop) {items : List α}
    (step : ∀ pre x post ρ M, items = pre ++ x :: post → P pre ρ M → WG X tg (f x) ρ M fun ρ1 M1 => WSsX X body ρ1 M1 { nx := P (pre ++ [x]), ct := P (pre ++ [x]), rt := E.rt, bk := E.nx } EX)
    (done : ∀ ρ M, P items ρ M → ∃ ρt, Le ρt ρ ∧ E.nx ρt M) {ρ : En} {M : Mp} (h : P [] ρ M) : ForTX X tg body E EX (items.map f) ρ M := by
  have key : ∀ (post pre : List α) (ρ : En) (M : Mp), items = pre ++ post → P pre ρ M → ForTX X tg body E EX (post.map f) ρ M := by
    intro post
    induction post with
    | nil =>
      intro pre ρ M e p
      rw [List.append_nil] at e
      subst e
      exact done ρ M p
    | cons x post ih =>
      intro pre ρ M e p
      have e' : items = (pre ++ [x]) ++ post := by rw [e, List.append_assoc]; rfl
      exact WG.imp (step pre x post ρ M e p) fun ρ1 M1 w => w.imp (fun _ _ z => ih _ _ _ e' z) (fun _ _ z => z) (fun _ _ z => z) fun _ _ z => ih _ _ _ e' z
  exact key items [] ρ M rfl h
end
end TL
end
section
set_option maxRecDepth 100000
set_option maxHeartbeats 0
/-! K82I: shafts raised, weaving by presses, bars by. -/
namespace K82
open PySem PySem.Spec PyProof.Rows L2 TL
open He (ga ma fAd)
theorem merge_cat {α : Type} (acc a b : List (Key × α)) : mergeG acc (a ++ b) = mergeG (mergeG acc a) b := by simp [mergeG]
theorem put_len {α : Type} (acc : List (Key × α)) (k : Key) (d : α) : (putG acc k d).length ≤ acc.length + 1 := by
  unfold putG
  split <;> simp
theorem merge_len {α : Type} : ∀ (b acc : List (Key × α)), (mergeG acc b).length ≤ acc.length + b.length
  | [], acc => by simp [mergeG]
  | p :: b, acc => by
    have h1 := put_len acc p.1 p.2
    have h2 := merge_len b (putG acc p.1 p.2)
    show (mergeG (putG acc p.1 p.2) b).length ≤ _
    rw [List.length_cons]; omega
abbrev trueK (l : List Int) : List (Key × D) := l.map fun i => (.inl i, .bl true)
theorem look_true (e : Int) : ∀ (l : List Int) (acc : List (Key × D)), (lookK (mergeG acc (trueK l)) (.inl e)).isSome = (decide (e ∈ l) || (lookK acc (.inl e)).isSome)
  | [], acc => by simp [mergeG]
  | i :: l, acc => by
    show (lookK (mergeG (putG acc (.inl i) (.bl true)) (trueK l)) (.inl e)).isSome = _
    rw [look_true e l, lookK_put]
    by_cases h : i = e
    · subst h; simp
    · have h2 : ¬ ((Sum.inl i : Key) = Sum.inl e) := fun z => h (Sum.inl.inj z)
      rw [if_neg h2]
      have h3 : ¬ e = i := fun z => h z.symm
      simp [h3]
/-- the shafts that some letters raise -/
def upT (v : LW) (t : List Nat) : List Int := t.flatMap fun c => v.lifts.getD (c - 97) []
def upK (v : LW) (t : List Nat) : List (Key × D) := mergeG [] (trueK (upT v t))
theorem upT_snoc (v : LW) (t : List Nat) (c : Nat) : upT v (t ++ [c]) = upT v t ++ v.lifts.getD (c - 97) [] := by simp [upT]
theorem upK_snoc (v : LW) (t : List Nat) (c : Nat) : upK v (t ++ [c]) = mergeG (upK v t) (trueK (v.lifts.getD (c - 97) [])) := by
  unfold upK trueK
  rw [upT_snoc, List.map_append, merge_cat]
theorem lift_len {v : LW} (ok : v.Ok) (c : Nat) : (v.lifts.getD c []).length ≤ 100 := by
  rw [List.getD_eq_getElem?_getD]
  cases h : v.lifts[c]? with
  | none => simp
  | some l => exact (ok.l2 l (List.mem_of_getElem? h)).1
theorem upT_len {v : LW} (ok : v.Ok) (t : List Nat) : (upT v t).length ≤ 100 * t.length := by
  induction t with
  | nil => simp [upT]
  | cons c t ih =>
    have h1 := lift_len ok (c - 97)
    have e : upT v (c :: t) = v.lifts.getD (c - 97) [] ++ upT v t := by simp [upT]
    rw [e, List.length_append, List.length_cons]; omega
theorem upK_len {v : LW} (ok : v.Ok) (t : List Nat) : (upK v t).length ≤ 100 * t.length := by
  have h1 := merge_len (trueK (upT v t)) []
  have h2 := upT_len ok t
  unfold upK
  simp at h1
  omega
section
variable {w : World} {K : PySem.W.Frag} {mg : Str → Option Value} {base : Heap} {M : Mp} {Q : DQ}
theorem t_shafts_raised (c : E82 w K mg base) {v : LW} (ok : v.Ok) {t : List Nat} (hl : t.length ≤ 1000) (ht : okTr v t = true) (h : Q (.dic (upK v t)) M) : TFn P82 w K mg base 3 (ga K "shafts_raised") (fdOf K ("shafts_raised", none)) ["loom", "press"] [loomD K v, .str t] M Q := by
  refine TFn.of c.f_shafts_raised s_shafts_raised rfl fun cdv A outer s H F hr => ?_
  have hs := sizeLine_eq
  refine .one <| .ret ?_
  refine WE.mcD1 2 [("letter", 2), ("shaft", 3)] rfl s_shafts_raised.nd (show BlkOk n_shafts_raised q_shafts_raised _ _ from ⟨rfl, by decide +kernel, by decide +kernel, by decide +kernel, by decide +kernel⟩) ?_
  refine WI.str <| .var 1 rfl ⟨_, rfl, fun Da hDa s H C cl fp => ?_⟩
  refine ForC.step sgD (fun pre M' => M' = mset M Da (.dic (upK v pre))) ?_ ?_ (by show _ = mset M Da (.dic (upK v [])); rfl)
  · rintro pre x post M' e rfl
    have hx : x ∈ t := by rw [e]; simp
    have hx2 : x ∈ alpha.take v.lifts.length := of_decide_eq_true (List.all_eq_true.mp ht x hx)
    obtain ⟨i, hi, rfl⟩ := mem_alpha ok.l1 hx2
    refine ⟨_, rfl, .nil ⟨fun z => (nomatch z), fun _ => ?_⟩⟩
    refine WB.last1 3 rfl s_shafts_raised.nd ?_
    refine WI.tup <| .meth (hr.mono (j := 1) (by omega)) c.cls_Loom c.meth_Loom_lift_of c.b_Loom_lift_of <| .var 0 rfl ⟨v.insF, rfl, rfl, .cons <| .var 2 rfl <| .nil <| t_Loom_lift_of c hi ok.l1 fun l hl' => ⟨_, rfl, ?_⟩⟩
    have el : v.lifts.getD (97 + i - 97) [] = l := by rw [Nat.add_sub_cancel_left, List.getD_eq_getElem?_getD, hl']; rfl
    have l100 : l.length ≤ 100 := by rw [← el]; exact lift_len ok _
    have k100 := upK_len ok pre
    have p100 : pre.length < t.length := by rw [e]; simp
    refine ForB.step D.int (fun pre2 ρ M' => (∃ y, ρ = [some (loomD K v), some (.str t), some (.str [97 + i]), y]) ∧ M' = mset M Da (.dic (mergeG (upK v pre) (trueK pre2)))) ?_ ?_ ⟨⟨_, rfl⟩, rfl⟩
    · rintro pre2 a post2 ρ M' e2 ⟨⟨y, rfl⟩, rfl⟩
      refine ⟨_, rfl, .nil ⟨fun z => (nomatch z), fun _ => ?_⟩⟩
      refine WB.emitD <| .var 3 rfl <| .bl ⟨.inl a, _, rfl, mset_same, ?_, ⟨_, rfl⟩, ?_⟩
      · have h1 := merge_len (trueK pre2) (upK v pre)
        have h2 : pre2.length ≤ l.length := by rw [e2]; simp
        simp at h1
        omega
      · rw [mset_mset]
        unfold trueK
        rw [List.map_append, merge_cat]
        rfl
    · rintro ρ M' ⟨⟨y, rfl⟩, rfl⟩
      show mset M Da _ = mset M Da _
      rw [upK_snoc, el]
  · rintro M' rfl
    refine ⟨_, mset_same, ?_⟩
    rw [mdel_mset hDa]
    exact h
end
end K82
end
section
set_option maxRecDepth 100000
set_option maxHeartbeats 0
/-! TDr: what was written is forgotten. -/
namespace TL
open PySem PySem.Spec PyProof.Rows L2
section
variable {X : Cx} {sts : List Stmt} {ρ : En} {M : Mp} {E : TEs} {EX : XDX}
theorem WSs.drop (p : Addr) (h : WSs X sts ρ (mdel M p) E) : WSs X sts ρ M E :=
  ⟨fun pins s σ H F I S => thn (h.run pins s σ H F I (S.step (Stp.drop p S.good))) fun _ _ q => SP.back (Stp.drop p S.good) q⟩
theorem WSsX.drop (p : Addr) (h : WSsX X sts ρ (mdel M p) E EX) : WSsX X sts ρ M E EX :=
  ⟨fun pins s σ H F I S tk => thn (h.run pins s σ H F I (S.step (Stp.drop p S.good)) (tk_back tk (Stp.drop p S.good))) fun _ _ q => SP.back (Stp.drop p S.good) q⟩
end
end TL
end
section
set_option maxRecDepth 100000
set_option maxHeartbeats 0
/-! K82J: weaving by presses. -/
namespace K82
open PySem PySem.Spec PyProof.Rows L2 TL
open He (ga ma fAd)
/-- the rows by presses -/
def rowP (v : LW) (t : List Nat) : List Nat := pickOf v.ends (upT v t)
def txtOf : D → List Nat
  | .str t => t
  | _ => []
def rowsP (v : LW) (xs : List D) : List (List Nat) := xs.map fun d => rowP v (txtOf d)
/-- what is wrong with a value: -1, the first item that is no press -/
def faultP (m : Nat) : D → Option Int
  | .tup (x :: xs) => ((x :: xs).findIdx? fun d => !pressB m d).map fun (i : Nat) => (i : Int)
  | _ => some (-1)
def itemsOf : D → List D
  | .tup xs => xs
  | _ => []
theorem fault_tup {m : Nat} {x : D} {xs : List D} : faultP m (.tup (x :: xs)) = ((x :: xs).findIdx? fun d => !pressB m d).map fun (i : Nat) => (i : Int) := rfl
theorem fault_none {m : Nat} {x : D} {xs : List D} : faultP m (.tup (x :: xs)) = none ↔ ∀ y ∈ x :: xs, pressB m y = true := by
  rw [fault_tup, Option.map_eq_none_iff, List.findIdx?_eq_none_iff]
  exact ⟨fun h y hy => by simpa using h y hy, fun h y hy => by simpa using h y hy⟩
theorem fault_presses (m : Nat) (d : D) : decide (faultP m d = none) = pressesB m d := by
  cases d with
  | tup xs =>
    cases xs with
    | nil => rfl
    | cons x xs =>
      show _ = (x :: xs).all (pressB m)
      cases h : (x :: xs).all (pressB m) with
      | true =>
        rw [List.all_eq_true] at h
        exact decide_eq_true (fault_none.mpr h)
      | false =>
        refine decide_eq_false fun z => ?_
        rw [List.all_eq_false] at h
        obtain ⟨y, hy, hz⟩ := h
        exact hz (fault_none.mp z y hy)
  | _ => rfl
theorem press_ok {m : Nat} {t : List Nat} (h : pressT m t = true) : (t.all fun c => decide (c ∈ alpha.take m)) = true := by
  unfold pressT at h
  rw [Bool.and_eq_true] at h
  exact h.1
theorem press_txt {m : Nat} {d : D} (h : pressB m d = true) : d = .str (txtOf d) ∧ pressT m (txtOf d) = true := by
  cases d <;> first | exact ⟨rfl, h⟩ | (simp [pressB] at h)
theorem pick_signs {ends l : List Int} : ∀ c ∈ pickOf ends l, c = 120 ∨ c = 45 := fun c hc => by
  obtain ⟨e, _, rfl⟩ := List.mem_map.mp hc
  split
  · exact .inl rfl
  · exact .inr rfl
theorem cwP {v : LW} (ok : v.Ok) {xs : List D} (h0 : xs ≠ []) (h1 : xs.length ≤ 1000) : CW (rowsP v xs) v.ends.length :=
  ⟨by simpa [rowsP] using h0, by simpa [rowsP] using h1, by simpa using ok.e0, by have := ok.e1; omega, fun t ht => by
    obtain ⟨d, _, rfl⟩ := List.mem_map.mp ht
    exact ⟨by simp [rowP, pickOf], pick_signs⟩⟩
theorem range_at {N : Nat} {pre post : List Nat} {x : Nat} (e : List.range N = pre ++ x :: post) : pre.length = x ∧ x < N := by
  have h1 : (List.range N)[pre.length]? = some x := by rw [e]; simp
  have h2 : pre.length < N := by
    have := (List.getElem?_eq_some_iff.mp h1).1
    simpa using this
  rw [List.getElem?_range h2] at h1
  have := Option.some.inj h1
  exact ⟨this, by omega⟩
theorem take_snoc {α : Type} {xs : List α} {i : Nat} {y : α} (h : xs[i]? = some y) : xs.take (i + 1) = xs.take i ++ [y] := by
  rw [List.take_succ, h]; rfl
section
variable {w : World} {K : PySem.W.Frag} {mg : Str → Option Value} {base : Heap} {M : Mp} {Q : DQ}
theorem t_woven_pressed (c : E82 w K mg base) {v : LW} (ok : v.Ok) {d : D} {n : Nat} (hv : vl n d = true) (hn : n ≤ 1000) {XQ : XDQ} (h : faultP v.lifts.length d = none → Q (clothD K (rowsP v (itemsOf d))) M)
    (hx : ∀ i, faultP v.lifts.length d = some i → XQ (ga K "BadPress") [("number", .int i)] M) :
    TFn P82 w K mg base 6 (ga K "woven_pressed") (fdOf K ("woven_pressed", none)) ["loom", "presses"] [loomD K v, d] M Q XQ := by
  refine TFn.ofX c.f_woven_pressed s_woven_pressed rfl fun cdv A outer s H F hr => ?_
  have hs := sizeLine_eq
  have hu : (A.deeper (envOfC "woven_pressed" q_woven_pressed s.heap.objs.size (ga K "woven_pressed") cdv)).units + 64 < cLine := hr.room.units
  obtain ⟨fd, bi, bb⟩ := c.bad_BadPress
  obtain ⟨tn, vn⟩ := c.v_NO_TUPLE
  obtain ⟨ta, va⟩ := c.v_RAISED
  obtain ⟨tb, vb⟩ := c.v_LOWERED
  obtain ⟨ty, kd⟩ := vl_ty hv
  refine .cons <| .ite <| .ww <| .or <| .not <| .val <| .callB c.n_isinstance rfl <| .cons <| .var 1 rfl <| .cons <| .ty c.n_tuple rfl <| .nil <| VC.isi kd.ty kd.tup ⟨_, rfl, ?_⟩
  cases d with
  | tup xs =>
    obtain ⟨xl, xv⟩ := vl_tup hv
    refine ⟨fun z => (nomatch z), fun _ => .or1 <| .cmp <| .var 1 rfl <| .tuple <| .nil ⟨by decide, VO.eqT0 (Nat.lt_of_le_of_lt (Nat.le_add_right _ 64) hu) ⟨_, rfl, ?_⟩⟩⟩
    cases xs with
    | nil => exact ⟨fun _ => .one <| WSX.raise rfl bi bb c.n_super (by decide) (hr.mono (j := 1) (by omega)) c.g_BadPress (WE.globI vn (hx _ rfl)), fun z => nomatch z⟩
    | cons x0 xs0 =>
      refine ⟨fun z => (nomatch z), fun _ => .of <| .done ?_⟩
      generalize exs : x0 :: xs0 = xs at *
      have x0' : xs ≠ [] := by rw [← exs]; simp
      have fe : faultP v.lifts.length (.tup xs) = (xs.findIdx? fun d => !pressB v.lifts.length d).map fun (i : Nat) => (i : Int) := by rw [← exs]; rfl
      refine .cons <| .of <| .set 2 (.listM <| .nil ⟨by decide, fun p hp => ?_⟩) s_woven_pressed.nd
      refine .cons <| WSX.for (L2.passes_of rfl) rfl ?_
      refine WI.enum c.n_enumerate <| .var 1 rfl ⟨_, rfl, ?_⟩
      unfold enD
      refine ForTX.map (fun (i : Nat) => D.tup [.int (i : Int), xs.getD i .non]) (fun pre ρ M' => (∃ y3 y4 y5, ρ = [some (loomD K v), some (.tup xs), some (.ref p), y3, y4, y5, none]) ∧ M' = mset M p (.lst ((rowsP v (xs.take pre.length)).map D.str)) ∧ ∀ y ∈ xs.take pre.length, pressB v.lifts.length y = true) ?_ ?_ ⟨⟨_, _, _, rfl⟩, by simp [rowsP], by simp⟩
      · rintro pre i post ρ M' e ⟨⟨y3, y4, y5, rfl⟩, rfl, hp2⟩
        obtain ⟨hpl, hi⟩ := range_at e
        have hi : i < xs.length := by simpa using hi
        obtain ⟨y, hy⟩ : ∃ y, xs[i]? = some y := ⟨_, List.getElem?_eq_getElem hi⟩
        have ey : xs.getD i .non = y := by rw [List.getD_eq_getElem?_getD, hy]; rfl
        rw [ey]
        have my : y ∈ xs := List.mem_of_getElem? hy
        refine .tup rfl <| .cons <| .nameN 3 s_woven_pressed.nd <| .cons <| .nameN 4 s_woven_pressed.nd <| .nil ?_
        refine .cons <| .ite <| .not <| .val <| .call (hr.mono (j := 2) (by omega)) c.g_is_press c.f_is_press.kp c.b_is_press <| .cons <| .var 0 rfl <| .cons <| .var 4 rfl <| .nil <| t_is_press c (xv y my) hn ⟨_, rfl, ?_⟩
        rw [hpl] at hp2
        cases hb : pressB v.lifts.length y with
        | false =>
          refine ⟨fun _ => WSsX.drop p ?_, fun z => nomatch z⟩
          rw [mdel_mset hp]
          refine .one <| WSX.raise rfl bi bb c.n_super (by decide) (hr.mono (j := 1) (by omega)) c.g_BadPress (.var 3 rfl (hx _ ?_))
          rw [fe]
          have : (xs.findIdx? fun d => !pressB v.lifts.length d) = some i := by
            rw [List.findIdx?_eq_some_iff_getElem]
            refine ⟨hi, ?_, fun j hj => ?_⟩
            · rw [(List.getElem?_eq_some_iff.mp hy).2, hb]; rfl
            · have hj' : j < xs.length := by omega
              have := hp2 xs[j] (List.mem_take_iff_getElem.mpr ⟨j, by omega, rfl⟩)
              rw [this]; simp
          rw [this]; rfl
        | true =>
          obtain ⟨et, pt⟩ := press_txt hb
          have hvy := xv y my
          rw [et] at hvy
          obtain ⟨tl, tc⟩ := vl_str hvy
          refine ⟨fun z => (nomatch z), fun _ => .of <| .done ?_⟩
          refine .cons <| .of <| .setN 5 s_woven_pressed.nd <| .call (hr.mono (j := 3) (by omega)) c.g_shafts_raised c.f_shafts_raised.kp c.b_shafts_raised <| .cons <| .var 0 rfl <| .cons <| .var 4 (d := .str (txtOf y)) (by rw [← et]; rfl) <| .nil <| t_shafts_raised c ok (by omega) (press_ok pt) ?_
          refine .one <| .of <| .expr <| .bm PySem.F.plainAttrs_list PySem.F.slot_list_append PySem.F.type_list_append <| .var 2 rfl ⟨.lstM mset_same, .cons ?_⟩
          refine .bm PySem.F.plainAttrs_str PySem.F.slot_str_join PySem.F.type_str_join <| .str ⟨.str, .cons ?_⟩
          refine WE.lc1 6 [("shaft", 6)] rfl s_woven_pressed.nd (show BlkOk n_woven_pressed q_woven_pressed _ _ from ⟨rfl, by decide +kernel, by decide +kernel, by decide +kernel, by decide +kernel⟩) ?_
          refine WI.tup <| .fld <| .var 0 rfl ⟨_, v.insF, _, rfl, c.cls_Loom, c.no_Loom_threading, by rfl, ⟨_, rfl, ?_⟩⟩
          have h1 := ok.e1
          refine CompT.map (fun d => match d with | .int e => .str [if e ∈ upT v (txtOf y) then 120 else 45] | _ => .non) (fun x hx => ?_) (by simp; omega) (.nil ?_)
          · obtain ⟨e, he, rfl⟩ := List.mem_map.mp hx
            refine ⟨_, rfl, fun s H C cl fp => .ife <| .cmp <| .var 6 rfl <| .var 5 rfl <| VO.inK (k := .inl e) (Nat.lt_of_le_of_lt (Nat.add_le_add_left (by omega) _) hu) rfl ⟨_, rfl, ?_⟩⟩
            unfold upK
            rw [look_true]
            refine ⟨fun z => ?_, fun z => ?_⟩
            · have : e ∈ upT v (txtOf y) := by simpa [lookK] using z
              exact .globS va ⟨by simp [this, lit], rfl⟩
            · have : ¬ e ∈ upT v (txtOf y) := by simpa [lookK] using z
              exact .globS vb ⟨by simp [this, lit], rfl⟩
          · have e1 : (v.ends.map D.int).map (fun d => match d with | .int e => D.str [if e ∈ upT v (txtOf y) then 120 else 45] | _ => .non) = (v.ends.map fun e => [if e ∈ upT v (txtOf y) then 120 else 45]).map D.str := by rw [List.map_map, List.map_map]; rfl
            rw [List.nil_append, e1]
            refine VM.joinL ?_ <| .nil <| VM.append mset_same (by simp [rowsP]; omega) ?_
            · rw [List.map_map]
              have : ∀ l : List Int, (l.map (List.length ∘ fun e => [if e ∈ upT v (txtOf y) then 120 else 45])).sum = l.length := by
                intro l
                induction l with
                | nil => rfl
                | cons a l ih => rw [List.map_cons, List.sum_cons, ih]; simp; omega
              rw [this]; omega
            have e2 : (v.ends.map fun e => [if e ∈ upT v (txtOf y) then 120 else 45]).flatten = rowP v (txtOf y) := by
              unfold rowP pickOf
              induction v.ends with
              | nil => rfl
              | cons a l ih => rw [List.map_cons, List.flatten_cons, ih]; rfl
            rw [e2, mset_mset]
            refine ⟨⟨_, _, _, rfl⟩, ?_, ?_⟩
            · rw [List.length_append, List.length_singleton, hpl, take_snoc hy]
              simp [rowsP]
            · rw [List.length_append, List.length_singleton, hpl, take_snoc hy]
              intro z hz
              rcases List.mem_append.mp hz with hz | hz
              · exact hp2 z hz
              · rw [List.mem_singleton.mp hz]; exact hb
      · rintro ρ M' ⟨⟨y3, y4, y5, rfl⟩, rfl, hall⟩
        rw [List.length_range, List.take_of_length_le (Nat.le_refl _)] at hall ⊢
        refine ⟨[some (loomD K v), some (.tup xs), some (.ref p), none, none, none, none], by simp [Le], ?_⟩
        refine .of <| .one <| .ret <| WE.drop p <| WE.make c.mk_Cloth (hr.mono (j := 4) (by omega)) c.g_Cloth c.b_Cloth_init <| .cons <| .callTy c.n_tuple rfl <| .cons <| .var 2 rfl <| .nil <| VC.tupleM mset_same ?_
        refine .nil fun z hz => ?_
        refine t_Cloth_init c (cwP ok x0' (by omega)) hz ?_
        rw [mdel_mset hp]
        refine h ?_
        rw [← exs]
        exact fault_none.mpr (by rw [exs]; exact hall)
  | _ => exact ⟨fun _ => ⟨fun _ => .one <| WSX.raise rfl bi bb c.n_super (by decide) (hr.mono (j := 1) (by omega)) c.g_BadPress (WE.globI vn (hx _ rfl)), fun z => nomatch z⟩, fun z => nomatch z⟩
end
end K82
end
section
set_option maxRecDepth 100000
set_option maxHeartbeats 0
/-! K82K: parts, bars, covers, in plain Lean. -/
namespace K82
open PySem PySem.Spec PyProof.Rows L2 TL
open He (ga ma fAd)
/-- a number below n -/
def wholeB (n : Nat) : D → Bool
  | .int i => decide (0 ≤ i) && decide (i < (n : Int))
  | _ => false
def intOf : D → Int
  | .int i => i
  | _ => 0
def lessB (ns : List Int) : Bool := (List.zipWith (fun a b => decide (a < b)) ns.dropLast (ns.drop 1)).all fun b => b
def partB (n : Nat) : D → Bool
  | .tup (x :: xs) => (x :: xs).all (wholeB n) && lessB ((x :: xs).map intOf)
  | _ => false
def natsOf : D → List Nat
  | .tup xs => xs.map fun d => (intOf d).toNat
  | _ => []
theorem less_cons (a b : Int) (l : List Int) : lessB (a :: b :: l) = (decide (a < b) && lessB (b :: l)) := by
  unfold lessB
  simp only [List.dropLast_cons_cons, List.drop_succ_cons, List.drop_zero, List.zipWith_cons_cons, List.all_cons]
theorem less_pair : ∀ {ns : List Int}, lessB ns = true ↔ ns.Pairwise (· < ·)
  | [] => by simp [lessB]
  | [a] => by simp [lessB]
  | a :: b :: l => by
    rw [less_cons, Bool.and_eq_true, less_pair (ns := b :: l), decide_eq_true_eq, List.pairwise_cons (a := a)]
    constructor
    · rintro ⟨h1, h2⟩
      refine ⟨fun x hx => ?_, h2⟩
      rcases List.mem_cons.mp hx with rfl | hx
      · exact h1
      · exact Int.lt_trans h1 ((List.pairwise_cons.mp h2).1 x hx)
    · rintro ⟨h1, h2⟩
      exact ⟨h1 b (List.mem_cons_self ..), h2⟩
theorem whole_nat {n : Nat} {d : D} (h : wholeB n d = true) : d = .int ((intOf d).toNat : Nat) ∧ (intOf d).toNat < n := by
  cases d with
  | int i =>
    simp only [wholeB, Bool.and_eq_true, decide_eq_true_eq] at h
    refine ⟨?_, ?_⟩
    · show D.int i = D.int (i.toNat : Int)
      rw [Int.toNat_of_nonneg h.1]
    · show i.toNat < n
      omega
  | _ => simp [wholeB] at h
/-- a part: numbers in order -/
structure PartOk (n : Nat) (l : List Nat) : Prop where
  ne : l ≠ []
  lt : ∀ i ∈ l, i < n
  up : l.Pairwise (· < ·)
theorem part_of {n : Nat} {d : D} (h : partB n d = true) : d = .tup (natsD (natsOf d)) ∧ PartOk n (natsOf d) := by
  cases d with
  | tup xs =>
    cases xs with
    | nil => simp [partB] at h
    | cons x xs =>
      generalize e : x :: xs = ys at h
      have h : (ys.all (wholeB n) && lessB (ys.map intOf)) = true := by rw [← e] at h ⊢; exact h
      rw [Bool.and_eq_true, List.all_eq_true, less_pair] at h
      obtain ⟨h1, h2⟩ := h
      have e1 : natsD (natsOf (.tup ys)) = ys := by
        show (ys.map fun d => (intOf d).toNat).map (fun (i : Nat) => D.int (i : Int)) = ys
        rw [List.map_map]
        refine (List.map_congr_left fun y hy => ?_).trans (List.map_id ys)
        exact (whole_nat (h1 y hy)).1.symm
      refine ⟨by rw [e1], by show (ys.map _) ≠ []; rw [← e]; simp, fun i hi => ?_, ?_⟩
      · obtain ⟨y, hy, rfl⟩ := List.mem_map.mp (show i ∈ ys.map fun d => (intOf d).toNat from hi)
        exact (whole_nat (h1 y hy)).2
      · show (ys.map fun d => (intOf d).toNat).Pairwise (· < ·)
        rw [List.pairwise_map] at h2 ⊢
        refine List.Pairwise.imp_of_mem (fun {a b} ha hb q => ?_) h2
        have ha := h1 a ha
        have hb := h1 b hb
        cases a <;> first | (simp [wholeB] at ha) | skip
        cases b <;> first | (simp [wholeB] at hb) | skip
        show Int.toNat _ < Int.toNat _
        have q : (_ : Int) < _ := q
        simp only [intOf] at q
        simp only [intOf]; omega
  | _ => simp [partB] at h
/-- a crossing's sign -/
def upAt (rows : List (List Nat)) (p e : Nat) : Bool := decide ((rows.getD p []).getD e 0 = 120)
def barB (rows : List (List Nat)) (n : Nat) : D → Bool
  | .tup [p, e] => partB rows.length p && partB n e && (natsOf p).all fun i => (natsOf e).all fun j => upAt rows i j
  | _ => false
def barOf : D → List Nat × List Nat
  | .tup [p, e] => (natsOf p, natsOf e)
  | _ => ([], [])
/-- the crossings with the end above -/
def ups (rows : List (List Nat)) : List (Nat × Nat) := (List.range rows.length).flatMap fun p => (ixs (fun x => decide (x = 120)) (rows.getD p [])).map fun e => (p, e)
def metB (bs : List (List Nat × List Nat)) (q : Nat × Nat) : Bool := bs.any fun b => decide (q.1 ∈ b.1) && decide (q.2 ∈ b.2)
def coverB (rows : List (List Nat)) (n : Nat) : D → Bool
  | .tup xs => xs.all (barB rows n) && (ups rows).all (metB (xs.map barOf))
  | _ => false
structure BarOk (rows : List (List Nat)) (n : Nat) (b : List Nat × List Nat) : Prop where
  p : PartOk rows.length b.1
  e : PartOk n b.2
  u : ∀ i ∈ b.1, ∀ j ∈ b.2, upAt rows i j = true
def barD (b : List Nat × List Nat) : D := .tup [.tup (natsD b.1), .tup (natsD b.2)]
theorem bar_of {rows : List (List Nat)} {n : Nat} {d : D} (h : barB rows n d = true) : d = barD (barOf d) ∧ BarOk rows n (barOf d) := by
  unfold barB at h
  split at h
  · rename_i p e
    simp only [Bool.and_eq_true, List.all_eq_true] at h
    obtain ⟨⟨h1, h2⟩, h3⟩ := h
    obtain ⟨e1, o1⟩ := part_of h1
    obtain ⟨e2, o2⟩ := part_of h2
    refine ⟨?_, o1, o2, h3⟩
    show D.tup [p, e] = .tup [.tup (natsD (natsOf p)), .tup (natsD (natsOf e))]
    rw [← e1, ← e2]
  · cases h
theorem sub_len' {α : Type} [DecidableEq α] : ∀ {l m : List α}, l.Nodup → (∀ x ∈ l, x ∈ m) → l.length ≤ m.length
  | [], m, _, _ => by simp
  | x :: l, m, hn, h => by
    obtain ⟨h1, h2⟩ := List.nodup_cons.mp hn
    have hx := h x (List.mem_cons_self ..)
    have := sub_len' (l := l) (m := m.erase x) h2 fun y hy => by
      have hne : y ≠ x := fun e => h1 (e ▸ hy)
      exact (List.mem_erase_of_ne hne).mpr (h y (List.mem_cons_of_mem _ hy))
    rw [List.length_erase_of_mem hx] at this
    have : 0 < m.length := List.length_pos_of_mem hx
    simp; omega
/-- a grid has no more crossings than rows times columns -/
theorem grid_len {L : List (Nat × Nat)} {a b : Nat} (hn : L.Nodup) (h : ∀ q ∈ L, q.1 < a ∧ q.2 < b) : L.length ≤ a * b := by
  have h1 := sub_len' (m := (List.range a).flatMap fun p => (List.range b).map fun e => (p, e)) hn fun q hq => by
    rw [List.mem_flatMap]
    refine ⟨q.1, List.mem_range.mpr (h q hq).1, List.mem_map.mpr ⟨q.2, List.mem_range.mpr (h q hq).2, rfl⟩⟩
  have h2 : ∀ a, ((List.range a).flatMap fun p => (List.range b).map fun e => (p, e)).length = a * b := by
    intro a
    induction a with
    | zero => simp
    | succ a ih => rw [List.range_succ, List.flatMap_append, List.length_append, ih]; simp [Nat.add_mul]
  rw [h2] at h1
  exact h1
/-- crossings as keys -/
abbrev prD (q : Nat × Nat) : D := .tup [.int (q.1 : Int), .int (q.2 : Int)]
def prK (q : Nat × Nat) : NestedKey := .tup [.num (q.1 : Int), .num (q.2 : Int)]
theorem pr_key (q : Nat × Nat) : nkey (prD q) = some (prK q) := by simp [nkey, nkeys, prK]
theorem pr_inj {a b : Nat × Nat} (h : prK a = prK b) : a = b := by
  unfold prK at h
  simp at h
  exact Prod.ext (by omega) (by omega)
theorem pr_depth (q : Nat × Nat) : (prK q).depth ≤ 8 := by simp [prK, NestedKey.depth, NestedKey.depthAll]
def kdL (L : List (Nat × Nat)) : List (D × D) := L.map fun q => (prD q, .bl true)
theorem look_kdL (q : Nat × Nat) : ∀ L : List (Nat × Nat), lookX (kdL L) (prK q) = if q ∈ L then some (.bl true) else none
  | [] => by simp [kdL, lookX]
  | x :: L => by
    show lookX ((prD x, .bl true) :: kdL L) (prK q) = _
    rw [lookX_cons, look_kdL q L, pr_key]
    by_cases h : x = q
    · subst h; simp
    · have h2 : ¬ some (prK x) = some (prK q) := fun z => h (pr_inj (Option.some.inj z))
      have h3 : ¬ q = x := fun z => h z.symm
      simp [h2, h3]
def insL (L : List (Nat × Nat)) (q : Nat × Nat) : List (Nat × Nat) := if q ∈ L then L else L ++ [q]
theorem mem_insL {L : List (Nat × Nat)} {q x : Nat × Nat} : x ∈ insL L q ↔ x ∈ L ∨ x = q := by
  unfold insL
  split
  · constructor
    · exact .inl
    · rintro (h | rfl)
      · exact h
      · assumption
  · simp
theorem nodup_insL {L : List (Nat × Nat)} {q : Nat × Nat} (h : L.Nodup) : (insL L q).Nodup := by
  unfold insL
  split
  · exact h
  · rename_i hq
    rw [List.nodup_append]
    exact ⟨h, by simp, fun a ha b hb => by rw [List.mem_singleton.mp hb]; exact fun e => hq (e ▸ ha)⟩
theorem put_kdL (L : List (Nat × Nat)) (q : Nat × Nat) : putX (kdL L) (prK q) (prD q) (.bl true) = kdL (insL L q) := by
  unfold putX insL
  rw [look_kdL]
  by_cases h : q ∈ L
  · simp only [h, if_true, Option.isSome_some]
    unfold kdL
    rw [List.map_map]
    refine List.map_congr_left fun x _ => ?_
    simp only [Function.comp]
    split <;> rfl
  · simp only [h, if_false, Option.isSome_none, Bool.false_eq_true]
    simp [kdL]
theorem mem_ups {rows : List (List Nat)} {q : Nat × Nat} : q ∈ ups rows ↔ q.1 < rows.length ∧ q.2 < (rows.getD q.1 []).length ∧ upAt rows q.1 q.2 = true := by
  unfold ups
  rw [List.mem_flatMap]
  constructor
  · rintro ⟨p, hp, hq⟩
    obtain ⟨e, he, rfl⟩ := List.mem_map.mp hq
    obtain ⟨x, hx, hx2⟩ := mem_ixs.mp he
    have lt := (List.getElem?_eq_some_iff.mp hx).1
    refine ⟨List.mem_range.mp hp, lt, ?_⟩
    show decide ((rows.getD p []).getD e 0 = 120) = true
    rw [List.getD_eq_getElem?_getD (l := rows.getD p []), hx]
    exact hx2
  · rintro ⟨h1, h2, h3⟩
    refine ⟨q.1, List.mem_range.mpr h1, List.mem_map.mpr ⟨q.2, mem_ixs.mpr ⟨(rows.getD q.1 [])[q.2], List.getElem?_eq_getElem h2, ?_⟩, rfl⟩⟩
    have h3 : decide ((rows.getD q.1 []).getD q.2 0 = 120) = true := h3
    rw [List.getD_eq_getElem?_getD (l := rows.getD q.1 []), List.getElem?_eq_getElem h2] at h3
    exact h3
end K82
end
section
set_option maxRecDepth 100000
set_option maxHeartbeats 0
/-! K82L: parts, bars, covers walked. -/
namespace K82
open PySem PySem.Spec PyProof.Rows L2 TL
open He (ga ma fAd)
section
variable {w : World} {K : PySem.W.Frag} {mg : Str → Option Value} {base : Heap} {M : Mp} {Q : DQ}
theorem t_are_some_numbers (c : E82 w K mg base) {many n : Nat} {d : D} (hv : vl n d = true) (hn : n ≤ 1000) (h : Q (.bl (partB many d)) M) : TFn P82 w K mg base 1 (ga K "are_some_numbers") (fdOf K ("are_some_numbers", none)) ["many", "thing"] [.int (many : Int), d] M Q := by
  refine TFn.of c.f_are_some_numbers s_are_some_numbers rfl fun cdv A outer s H F hr => ?_
  have hs := sizeLine_eq
  have hu : (A.deeper (envOfC "are_some_numbers" q_are_some_numbers s.heap.objs.size (ga K "are_some_numbers") cdv)).units + 64 < cLine := hr.room.units
  obtain ⟨ty, kd⟩ := vl_ty hv
  refine .cons <| .ite <| .ww <| .or <| .not <| .val <| .callB c.n_isinstance rfl <| .cons <| .var 1 rfl <| .cons <| .ty c.n_tuple rfl <| .nil <| VC.isi kd.ty kd.tup ⟨_, rfl, ?_⟩
  cases d with
  | tup xs =>
    obtain ⟨xl, xv⟩ := vl_tup hv
    refine ⟨fun z => (nomatch z), fun _ => .or1 <| .cmp <| .var 1 rfl <| .tuple <| .nil ⟨by decide, VO.eqT0 (Nat.lt_of_le_of_lt (Nat.le_add_right _ 64) hu) ⟨_, rfl, ?_⟩⟩⟩
    cases xs with
    | nil => exact ⟨fun _ => .one <| .ret <| .bl h, fun z => nomatch z⟩
    | cons x xs =>
      have h : Q (.bl ((x :: xs).all (wholeB many) && lessB ((x :: xs).map intOf))) M := h
      refine ⟨fun z => (nomatch z), fun _ => .done ?_⟩
      refine .cons <| .ite <| .not <| .val <| .callB c.n_all rfl <| .cons ?_
      refine WE.lc1 2 [("item", 2)] rfl s_are_some_numbers.nd (show BlkOk n_are_some_numbers q_are_some_numbers _ _ from ⟨rfl, by decide +kernel, by decide +kernel, by decide +kernel, by decide +kernel⟩) ?_
      refine WI.tup <| .var 1 rfl ⟨_, rfl, ?_⟩
      generalize exs : x :: xs = ys at *
      refine CompT.map (fun d => .bl (wholeB many d)) (fun y hy => ?_) (by rw [List.length_nil]; omega) (.nil ?_)
      · refine ⟨_, rfl, fun s H C cl fp => ?_⟩
        obtain ⟨t2, k2⟩ := vl_ty (xv y hy)
        refine .and <| .callB c.n_isinstance rfl <| .cons <| .var 2 rfl <| .cons <| .ty c.n_int rfl <| .nil <| VC.isi k2.ty k2.int ⟨_, rfl, ?_⟩
        cases y with
        | int i =>
          refine ⟨fun z => (nomatch z), fun _ => .and <| .not <| .callB c.n_isinstance rfl <| .cons <| .var 2 rfl <| .cons <| .ty c.n_bool rfl <| .nil <| VC.isi k2.ty k2.bool ⟨_, rfl, _, rfl, fun z => (nomatch z), fun _ => ?_⟩⟩
          refine .one <| .chain <| .int <| .var 2 rfl <| .le ⟨_, rfl, fun z => ?_, fun z => .var 0 rfl <| .lt ?_⟩
          · exact ⟨by simp [wholeB, z], rfl⟩
          · exact ⟨by simp [wholeB, z], rfl⟩
        | bl b => exact ⟨fun z => (nomatch z), fun _ => .and <| .not <| .callB c.n_isinstance rfl <| .cons <| .var 2 rfl <| .cons <| .ty c.n_bool rfl <| .nil <| VC.isi k2.ty k2.bool ⟨_, rfl, _, rfl, fun _ => ⟨rfl, rfl⟩, fun z => nomatch z⟩⟩
        | _ => exact ⟨fun _ => ⟨rfl, rfl⟩, fun z => nomatch z⟩
      have e : ys.map (fun d => D.bl (wholeB many d)) = (ys.map (wholeB many)).map D.bl := by rw [List.map_map]; rfl
      rw [List.nil_append, e]
      refine VC.all rfl ⟨_, rfl, ?_⟩
      have e2 : ((ys.map (wholeB many)).all fun b => b) = ys.all (wholeB many) := by rw [List.all_map]; rfl
      rw [e2]
      cases ha : ys.all (wholeB many) with
      | false =>
        rw [ha] at h
        exact ⟨fun _ => .one <| .ret <| .bl h, fun z => nomatch z⟩
      | true =>
        rw [ha, Bool.true_and] at h
        rw [List.all_eq_true] at ha
        refine ⟨fun z => (nomatch z), fun _ => .done ?_⟩
        have ei : ys = (ys.map intOf).map D.int := by
          rw [List.map_map]
          refine ((List.map_congr_left fun y hy => ?_).trans (List.map_id ys)).symm
          have hw := ha y hy
          cases y <;> first | rfl | (simp [wholeB] at hw)
        rw [ei]
        rw [ei] at xl
        generalize ys.map intOf = ns at *
        refine .one <| .ret <| .callB c.n_all rfl <| .cons ?_
        refine WE.lc2 3 4 [("one", 3), ("other", 4)] rfl s_are_some_numbers.nd (show BlkOk n_are_some_numbers q_are_some_numbers _ _ from ⟨rfl, by decide +kernel, by decide +kernel, by decide +kernel, by decide +kernel⟩) ?_
        refine WI.zip c.n_zip <| .cons <| .slice <| .var 1 rfl <| .none <| .some <| .neg <| .int ⟨_, rfl, _, rfl, .tup <| .cons <| .slice <| .var 1 rfl <| .some <| .int ⟨_, rfl, .none <| .tup <| .nil ?_⟩⟩
        refine ⟨_, _, _, _, rfl, rfl, rfl, ?_⟩
        rw [cut1, cut_last, ← List.map_drop, ← List.map_dropLast, zp_ints]
        refine CompT.map (fun d => match d with | .tup [.int a, .int b] => .bl (decide (a < b)) | _ => .non) (fun x hx => ?_) ?_ ?_
        · obtain ⟨i, hi, rfl⟩ := List.mem_iff_getElem.mp hx
          rw [List.getElem_zipWith]
          exact ⟨_, rfl, fun s H C cl fp => .cmp <| .var 3 rfl <| .var 4 rfl <| .lt ⟨rfl, rfl⟩⟩
        · simp at xl ⊢; omega
        · refine .nil ?_
          have e : (List.zipWith (fun a b => D.tup [.int a, .int b]) ns.dropLast (ns.drop 1)).map (fun d => match d with | .tup [.int a, .int b] => D.bl (decide (a < b)) | _ => .non) = (List.zipWith (fun a b => decide (a < b)) ns.dropLast (ns.drop 1)).map D.bl := by
            rw [List.map_zipWith, List.map_zipWith]
          rw [List.nil_append, e]
          exact VC.all rfl h
  | _ => exact ⟨fun _ => ⟨fun _ => .one <| .ret <| .bl h, fun z => nomatch z⟩, fun z => nomatch z⟩
end
end K82
end
section
set_option maxRecDepth 100000
set_option maxHeartbeats 0
/-! K82M: bars, crossings, covers walked. -/
namespace K82
open PySem PySem.Spec PyProof.Rows L2 TL
open He (ga ma fAd)
theorem bar_len {rows : List (List Nat)} {n : Nat} {xs : List D} (h : xs.length ≠ 2) : barB rows n (.tup xs) = false := by
  match xs, h with
  | [], _ => rfl
  | [_], _ => rfl
  | [_, _], h => exact absurd rfl h
  | _ :: _ :: _ :: _, _ => rfl
theorem row_at {rows : List (List Nat)} {n : Nat} (ok : CW rows n) {i j : Nat} (hi : i < rows.length) (hj : j < n) : ∃ r c, rows[i]? = some r ∧ r[j]? = some c ∧ r.length = n ∧ upAt rows i j = decide (c = 120) := by
  have hr := List.getElem?_eq_getElem hi
  have hl := (ok.r2 rows[i] (List.getElem_mem hi)).1
  have hc : (rows[i])[j]? = some (rows[i])[j] := List.getElem?_eq_getElem (by omega)
  refine ⟨_, _, hr, hc, hl, ?_⟩
  unfold upAt
  rw [List.getD_eq_getElem?_getD (l := rows), hr, Option.getD_some, List.getD_eq_getElem?_getD, hc, Option.getD_some]
theorem head_len' {rows : List (List Nat)} {n : Nat} (ok : CW rows n) : (rows.headD []).length = n := by
  cases e : rows with
  | nil => exact absurd e ok.r0
  | cons r rs => exact (ok.r2 r (by rw [e]; simp)).1
section
variable {w : World} {K : PySem.W.Frag} {mg : Str → Option Value} {base : Heap} {M : Mp} {Q : DQ}
theorem t_is_bar (c : E82 w K mg base) {rows : List (List Nat)} {m n : Nat} (ok : CW rows m) {d : D} (hv : vl n d = true) (hn : n ≤ 1000) (h : Q (.bl (barB rows m d)) M) : TFn P82 w K mg base 3 (ga K "is_bar") (fdOf K ("is_bar", none)) ["cloth", "thing"] [clothD K rows, d] M Q := by
  refine TFn.of c.f_is_bar s_is_bar rfl fun cdv A outer s H F hr => ?_
  have hs := sizeLine_eq
  obtain ⟨tp, vp⟩ := c.v_PAIR
  obtain ⟨ta, va⟩ := c.v_RAISED
  obtain ⟨ty, kd⟩ := vl_ty hv
  have m1 := ok.n1
  have r1 := ok.r1
  refine .cons <| .ite <| .ww <| .or <| .not <| .val <| .callB c.n_isinstance rfl <| .cons <| .var 1 rfl <| .cons <| .ty c.n_tuple rfl <| .nil <| VC.isi kd.ty kd.tup ⟨_, rfl, ?_⟩
  cases d with
  | tup xs =>
    obtain ⟨xl, xv⟩ := vl_tup hv
    refine ⟨fun z => (nomatch z), fun _ => .or1 <| .cmp <| .callB c.n_len rfl <| .cons <| .var 1 rfl <| .nil <| VC.len (n := xs.length) (by simp [lenD]) <| WE.globI vp <| VO.neI ⟨_, rfl, ?_⟩⟩
    by_cases h2 : xs.length = 2
    · have e2 : (!decide ((xs.length : Int) = 2)) = false := by rw [h2]; rfl
      rw [e2]
      match xs, h2 with
      | [p, e], _ =>
        have vp' := xv p (by simp)
        have ve' := xv e (by simp)
        have hq : Q (.bl (partB rows.length p && partB m e && (natsOf p).all fun i => (natsOf e).all fun j => upAt rows i j)) M := h
        clear h
        refine ⟨fun z => (nomatch z), fun _ => .done ?_⟩
        refine .cons <| .asg <| .var 1 rfl <| .tup rfl <| .cons <| .nameN 2 s_is_bar.nd <| .cons <| .nameN 3 s_is_bar.nd <| .nil ?_
        refine .cons <| .ite <| .ww <| .or <| .not <| .val <| .call (hr.mono (j := 1) (by omega)) c.g_are_some_numbers c.f_are_some_numbers.kp c.b_are_some_numbers <| .cons <| .callB c.n_len rfl <| .cons <| .var 0 rfl <| .nil <| VC.lenOwn (hr.mono (j := 2) (by omega)) c.sp_Cloth_len.1 c.sp_Cloth_len.2 c.b_Cloth_len <| t_Cloth_len c ⟨_, rfl, by omega, .cons <| .var 2 rfl <| .nil <| t_are_some_numbers c vp' hn ⟨_, rfl, ?_⟩⟩
        cases hp : partB rows.length p with
        | false =>
          rw [hp] at hq
          exact ⟨fun _ => ⟨fun _ => .one <| .ret <| .bl hq, fun z => nomatch z⟩, fun z => nomatch z⟩
        | true =>
          rw [hp, Bool.true_and] at hq
          refine ⟨fun z => (nomatch z), fun _ => .or1 <| .not <| .val <| .call (hr.mono (j := 1) (by omega)) c.g_are_some_numbers c.f_are_some_numbers.kp c.b_are_some_numbers <| .cons <| .fld <| .var 0 rfl ⟨_, _, _, rfl, c.cls_Cloth, c.no_Cloth_ends, by rfl, .cons <| .var 3 rfl <| .nil <| ?_⟩⟩
          rw [head_len' ok]
          refine t_are_some_numbers c ve' hn ⟨_, rfl, ?_⟩
          cases he : partB m e with
          | false =>
            rw [he] at hq
            exact ⟨fun _ => .one <| .ret <| .bl hq, fun z => nomatch z⟩
          | true =>
            rw [he, Bool.true_and] at hq
            refine ⟨fun z => (nomatch z), fun _ => .done ?_⟩
            obtain ⟨ep, op⟩ := part_of hp
            obtain ⟨ee, oe⟩ := part_of he
            obtain ⟨pl, _⟩ := vl_tup (by rw [ep] at vp'; exact vp')
            obtain ⟨el, _⟩ := vl_tup (by rw [ee] at ve'; exact ve')
            rw [List.length_map] at pl el
            generalize natsOf p = ps at *
            generalize natsOf e = es at *
            subst ep ee
            refine .one <| .ret <| .callB c.n_all rfl <| .cons ?_
            refine WE.mcL1 4 [("pick", 4), ("end", 5)] rfl s_is_bar.nd (show BlkOk n_is_bar q_is_bar _ _ from ⟨rfl, by decide +kernel, by decide +kernel, by decide +kernel, by decide +kernel⟩) ?_
            refine WI.tup <| .var 2 rfl ⟨_, rfl, fun Da hDa s H C cl fp => ?_⟩
            refine ForC.step (fun (i : Nat) => D.int (i : Int)) (fun pre M' => M' = mset M Da (.lst ((pre.flatMap fun i => es.map fun j => upAt rows i j).map D.bl)) ∧ (pre.flatMap fun i => es.map fun j => upAt rows i j).length = pre.length * es.length) ?_ ?_ ⟨rfl, by simp⟩
            · rintro pre i post M' e ⟨rfl, hlen⟩
              have hi : i < rows.length := op.lt i (by rw [e]; simp)
              have hpl : pre.length < 1000 := by
                have := congrArg List.length e
                simp at this; omega
              refine ⟨_, rfl, .nil ⟨fun z => (nomatch z), fun _ => ?_⟩⟩
              refine WB.last1 5 rfl s_is_bar.nd ?_
              refine WI.tup <| .var 3 rfl ⟨_, rfl, ?_⟩
              refine ForB.step (fun (j : Nat) => D.int (j : Int)) (fun pre2 ρ M' => (∃ y, ρ = [some (clothD K rows), some (.tup [.tup (natsD ps), .tup (natsD es)]), some (.tup (natsD ps)), some (.tup (natsD es)), some (.int (i : Int)), y]) ∧ M' = mset M Da (.lst (((pre.flatMap fun i => es.map fun j => upAt rows i j) ++ pre2.map fun j => upAt rows i j).map D.bl))) ?_ ?_ ⟨⟨_, rfl⟩, by simp⟩
              · rintro pre2 j post2 ρ M' e2 ⟨⟨y, rfl⟩, rfl⟩
                have hj : j < m := oe.lt j (by rw [e2]; simp)
                have hpl2 : pre2.length ≤ es.length := by rw [e2]; simp
                obtain ⟨r, cc, hr1, hr2, hr3, hr4⟩ := row_at ok hi hj
                refine ⟨_, rfl, .nil ⟨fun z => (nomatch z), fun _ => ?_⟩⟩
                refine WB.emitL <| .cmp <| .ix <| .ix <| .fld <| .var 0 rfl ⟨_, _, _, rfl, c.cls_Cloth, c.no_Cloth_picks, by rfl, .var 4 rfl <| VI.tup (d := .str r) (by rw [TL.atI_nat, List.getElem?_map, hr1]; rfl) <| .var 5 rfl <| VI.str (c := cc) (by omega) (by rw [TL.atI_nat]; exact hr2) <| .globS va <| VO.eqS ⟨_, mset_same, ?_, ⟨_, rfl⟩, ?_⟩⟩
                · have := Nat.mul_le_mul (show pre.length ≤ 1000 by omega) (show es.length ≤ 1000 by omega)
                  rw [List.length_map, List.length_append, List.length_map, hlen]
                  omega
                · rw [mset_mset, List.map_append, List.map_append, List.map_append, List.map_append, List.append_assoc]
                  have : decide ([cc] = lit "x") = decide (cc = 120) := by simp [lit]
                  rw [this]
                  simp [hr4]
              · rintro ρ M' ⟨⟨y, rfl⟩, rfl⟩
                refine ⟨by rw [List.flatMap_append]; simp, by rw [List.flatMap_append, List.length_append, hlen]; simp [Nat.add_mul]⟩
            · rintro M' ⟨rfl, _⟩
              refine ⟨_, mset_same, ?_⟩
              rw [mdel_mset hDa]
              refine .nil <| VC.all rfl ?_
              rw [List.all_flatMap]
              simp only [List.all_map, Function.comp_def]
              exact hq
    · have e2 : (!decide ((xs.length : Int) = 2)) = true := by
        have : ¬ ((xs.length : Int) = 2) := by omega
        simp [this]
      rw [bar_len h2] at h
      rw [e2]
      exact ⟨fun _ => .one <| .ret <| .bl h, fun z => nomatch z⟩
  | _ => exact ⟨fun _ => ⟨fun _ => .one <| .ret <| .bl h, fun z => nomatch z⟩, fun z => nomatch z⟩
end
end K82
end
section
set_option maxRecDepth 100000
set_option maxHeartbeats 0
/-! K82N: crossings raised, covers. -/
namespace K82
open PySem PySem.Spec PyProof.Rows L2 TL
open He (ga ma fAd)
abbrev isX (x : Nat) : Bool := decide (x = 120)
def upsTo (rows : List (List Nat)) (l : List Nat) : List (Nat × Nat) := l.flatMap fun p => (ixs isX (rows.getD p [])).map fun e => (p, e)
theorem upsTo_len {rows : List (List Nat)} {m : Nat} (ok : CW rows m) : ∀ l : List Nat, (upsTo rows l).length ≤ l.length * 1000
  | [] => by simp [upsTo]
  | p :: l => by
    have h1 := upsTo_len ok l
    have h2 : (ixs isX (rows.getD p [])).length ≤ 1000 := by
      refine Nat.le_trans ixs_len ?_
      rw [List.getD_eq_getElem?_getD]
      cases h : rows[p]? with
      | none => simp
      | some r => have := (ok.r2 r (List.mem_of_getElem? h)).1; have := ok.n1; simp; omega
    have e : upsTo rows (p :: l) = (ixs isX (rows.getD p [])).map (fun e => (p, e)) ++ upsTo rows l := rfl
    rw [e, List.length_append, List.length_map, List.length_cons]
    omega
section
variable {w : World} {K : PySem.W.Frag} {mg : Str → Option Value} {base : Heap} {M : Mp} {Q : DQ}
theorem t_crossings_raised (c : E82 w K mg base) {rows : List (List Nat)} {m : Nat} (ok : CW rows m) (h : Q (.lst ((ups rows).map prD)) M) : TFn P82 w K mg base 1 (ga K "crossings_raised") (fdOf K ("crossings_raised", none)) ["cloth"] [clothD K rows] M Q := by
  refine TFn.of c.f_crossings_raised s_crossings_raised rfl fun cdv A outer s H F hr => ?_
  have hs := sizeLine_eq
  obtain ⟨ta, va⟩ := c.v_RAISED
  have m1 := ok.n1
  have r1 := ok.r1
  refine .one <| .ret ?_
  refine WE.mcL2 1 2 [("pick", 1), ("signs", 2), ("end", 3), ("sign", 4)] rfl s_crossings_raised.nd (show BlkOk n_crossings_raised q_crossings_raised _ _ from ⟨rfl, by decide +kernel, by decide +kernel, by decide +kernel, by decide +kernel⟩) ?_
  refine WI.enum c.n_enumerate <| .fld <| .var 0 rfl ⟨_, _, _, rfl, c.cls_Cloth, c.no_Cloth_picks, by rfl, ⟨_, rfl, fun Da hDa s H C cl fp => ?_⟩⟩
  unfold enD
  refine ForC.step (fun (i : Nat) => D.tup [.int (i : Int), (rows.map D.str).getD i .non]) (fun pre M' => M' = mset M Da (.lst ((upsTo rows pre).map prD))) ?_ ?_ rfl
  · rintro pre i post M' e rfl
    obtain ⟨hpl, hi⟩ := range_at e
    have hi : i < rows.length := by simpa using hi
    obtain ⟨r, hr1⟩ : ∃ r, rows[i]? = some r := ⟨_, List.getElem?_eq_getElem hi⟩
    have er : (rows.map D.str).getD i .non = .str r := by rw [List.getD_eq_getElem?_getD, List.getElem?_map, hr1]; rfl
    have eg : rows.getD i [] = r := by rw [List.getD_eq_getElem?_getD, hr1]; rfl
    have rl : r.length ≤ 1000 := by have := (ok.r2 r (List.mem_of_getElem? hr1)).1; omega
    rw [er]
    have ul := upsTo_len ok pre
    refine ⟨_, rfl, .nil ⟨fun z => (nomatch z), fun _ => ?_⟩⟩
    refine WB.last2 3 4 rfl s_crossings_raised.nd ?_
    refine WI.enum c.n_enumerate <| .var 2 rfl ⟨_, rfl, ?_⟩
    unfold enD
    rw [List.length_map]
    refine ForB.step (fun (j : Nat) => D.tup [.int (j : Int), (r.map fun c => D.str [c]).getD j .non]) (fun pre2 ρ M' => (∃ y z, ρ = [some (clothD K rows), some (.int (i : Int)), some (.str r), y, z]) ∧ M' = mset M Da (.lst (((upsTo rows pre) ++ (pre2.filter fun j => match r[j]? with | some x => isX x | none => false).map fun e => (i, e)).map prD))) ?_ ?_ ⟨⟨_, _, rfl⟩, by simp⟩
    · rintro pre2 j post2 ρ M' e2 ⟨⟨y, z, rfl⟩, rfl⟩
      obtain ⟨hpl2, hj⟩ := range_at e2
      obtain ⟨x, hx⟩ : ∃ x, r[j]? = some x := ⟨_, List.getElem?_eq_getElem hj⟩
      have ex : (r.map fun c => D.str [c]).getD j .non = .str [x] := by rw [List.getD_eq_getElem?_getD, List.getElem?_map, hx]; rfl
      rw [ex]
      refine ⟨_, rfl, .one <| .cmp <| .var 4 rfl <| .globS va <| VO.eqS ⟨_, rfl, ?_, ?_⟩⟩
      · intro z
        refine ⟨⟨_, _, rfl⟩, ?_⟩
        have : isX x = false := by
          have : ¬ ([x] = lit "x") := of_decide_eq_false z
          simpa [lit] using this
        rw [List.filter_append]
        simp [hx, this]
      · intro z
        have hx1 : isX x = true := by
          have : [x] = lit "x" := of_decide_eq_true z
          simpa [lit] using this
        refine WB.emitL <| .tuple <| .cons <| .var 1 rfl <| .cons <| .var 3 rfl <| .nil ⟨by show 2 ≤ sizeLine; decide, _, mset_same, ?_, ⟨_, _, rfl⟩, ?_⟩
        · have h3 := List.length_filter_le (fun j => match r[j]? with | some x => isX x | none => false) pre2
          have h4 := Nat.mul_le_mul_right 1000 (show pre.length ≤ 1000 by omega)
          rw [List.length_map, List.length_append, List.length_map]
          omega
        · rw [mset_mset, List.filter_append]
          simp [hx, hx1]
    · rintro ρ M' ⟨⟨y, z, rfl⟩, rfl⟩
      show mset M Da _ = mset M Da _
      have : upsTo rows (pre ++ [i]) = upsTo rows pre ++ (ixs isX r).map fun e => (i, e) := by
        unfold upsTo
        rw [List.flatMap_append]
        simp only [List.flatMap_cons, List.flatMap_nil, List.append_nil, eg]
      have e9 : (List.range r.length).filter (fun j => match r[j]? with | some x => isX x | none => false) = ixs isX r := by
        unfold ixs
        exact List.filter_congr fun j _ => by cases r[j]? <;> rfl
      rw [this, e9]
  · rintro M' rfl
    refine ⟨_, mset_same, ?_⟩
    rw [mdel_mset hDa, List.length_map]
    exact h
theorem met_snoc (bs : List (List Nat × List Nat)) (b : List Nat × List Nat) (q : Nat × Nat) : metB (bs ++ [b]) q = (metB bs q || (decide (q.1 ∈ b.1) && decide (q.2 ∈ b.2))) := by simp [metB]
/-- what holds of the crossings covered so far -/
structure Cov (rows : List (List Nat)) (m : Nat) (L : List (Nat × Nat)) (f : Nat × Nat → Bool) : Prop where
  nd : L.Nodup
  lt : ∀ q ∈ L, q.1 < rows.length ∧ q.2 < m
  iff : ∀ q, q ∈ L ↔ f q = true
theorem Cov.ins {rows : List (List Nat)} {m : Nat} {L : List (Nat × Nat)} {f g : Nat × Nat → Bool} (o : Cov rows m L f) {q : Nat × Nat} (h1 : q.1 < rows.length) (h2 : q.2 < m) (hg : ∀ x, g x = true ↔ f x = true ∨ x = q) : Cov rows m (insL L q) g :=
  ⟨nodup_insL o.nd, fun x hx => by
    rcases mem_insL.mp hx with h | rfl
    · exact o.lt x h
    · exact ⟨h1, h2⟩, fun x => by rw [mem_insL, hg, o.iff]⟩
theorem Cov.ext {rows : List (List Nat)} {m : Nat} {L : List (Nat × Nat)} {f g : Nat × Nat → Bool} (o : Cov rows m L f) (h : ∀ q, f q = g q) : Cov rows m L g := ⟨o.nd, o.lt, fun q => by rw [o.iff, h]⟩
theorem t_do_cover (c : E82 w K mg base) {rows : List (List Nat)} {m n : Nat} (ok : CW rows m) {d : D} (hv : vl n d = true) (hn : n ≤ 1000) (h : Q (.bl (coverB rows m d)) M) : TFn P82 w K mg base 4 (ga K "do_cover") (fdOf K ("do_cover", none)) ["cloth", "thing"] [clothD K rows, d] M Q := by
  refine TFn.of c.f_do_cover s_do_cover rfl fun cdv A outer s H F hr => ?_
  have hs := sizeLine_eq
  obtain ⟨ty, kd⟩ := vl_ty hv
  have m1 := ok.n1
  have r1 := ok.r1
  refine .cons <| .ite <| .ww <| .or <| .not <| .val <| .callB c.n_isinstance rfl <| .cons <| .var 1 rfl <| .cons <| .ty c.n_tuple rfl <| .nil <| VC.isi kd.ty kd.tup ⟨_, rfl, ?_⟩
  cases d with
  | tup xs =>
    obtain ⟨xl, xv⟩ := vl_tup hv
    have hq : Q (.bl (xs.all (barB rows m) && (ups rows).all (metB (xs.map barOf)))) M := h
    clear h
    refine ⟨fun z => (nomatch z), fun _ => .or1 <| .not <| .val <| .callB c.n_all rfl <| .cons ?_⟩
    refine WE.lc1 2 [("bar", 2)] rfl s_do_cover.nd (show BlkOk n_do_cover q_do_cover _ _ from ⟨rfl, by decide +kernel, by decide +kernel, by decide +kernel, by decide +kernel⟩) ?_
    refine WI.tup <| .var 1 rfl ⟨_, rfl, ?_⟩
    refine CompT.map (fun d => .bl (barB rows m d)) (fun y hy => ?_) (by rw [List.length_nil]; omega) (.nil ?_)
    · exact ⟨_, rfl, fun s H C cl fp => .call (hr.mono (j := 3) (by omega)) c.g_is_bar c.f_is_bar.kp c.b_is_bar <| .cons <| .var 0 rfl <| .cons <| .var 2 rfl <| .nil <| t_is_bar c ok (xv y hy) hn ⟨rfl, rfl⟩⟩
    have e : xs.map (fun d => D.bl (barB rows m d)) = (xs.map (barB rows m)).map D.bl := by rw [List.map_map]; rfl
    rw [List.nil_append, e]
    refine VC.all rfl ⟨_, rfl, ?_⟩
    have e2 : ((xs.map (barB rows m)).all fun b => b) = xs.all (barB rows m) := by rw [List.all_map]; rfl
    rw [e2]
    cases ha : xs.all (barB rows m) with
    | false =>
      rw [ha] at hq
      exact ⟨fun _ => .one <| .ret <| .bl hq, fun z => nomatch z⟩
    | true =>
      rw [ha, Bool.true_and] at hq
      rw [List.all_eq_true] at ha
      refine ⟨fun z => (nomatch z), fun _ => .done ?_⟩
      have ex : xs = (xs.map barOf).map barD := by
        rw [List.map_map]
        exact ((List.map_congr_left fun y hy => ((bar_of (ha y hy)).1).symm).trans (List.map_id xs)).symm
      have hbs : ∀ b ∈ xs.map barOf, BarOk rows m b := fun b hb => by
        obtain ⟨y, hy, rfl⟩ := List.mem_map.mp hb
        exact (bar_of (ha y hy)).2
      generalize xs.map barOf = bs at *
      subst ex
      refine .cons <| .set 3 ?_ s_do_cover.nd
      refine WE.mcK2 4 5 [("picks", 4), ("ends", 5), ("pick", 6), ("end", 7)] rfl s_do_cover.nd (show BlkOk n_do_cover q_do_cover _ _ from ⟨rfl, by decide +kernel, by decide +kernel, by decide +kernel, by decide +kernel⟩) ?_
      refine WI.tup <| .var 1 rfl ⟨_, rfl, fun Da hDa s H C cl fp => ?_⟩
      refine ForC.step barD (fun pre M' => ∃ L, Cov rows m L (metB pre) ∧ M' = mset M Da (.kd w (kdL L))) ?_ ?_ ⟨[], ⟨List.nodup_nil, by simp, fun q => by simp [metB]⟩, rfl⟩
      · rintro pre b post M' e ⟨L, cov, rfl⟩
        have bo : BarOk rows m b := hbs b (by rw [e]; simp)
        refine ⟨_, rfl, .nil ⟨fun z => (nomatch z), fun _ => ?_⟩⟩
        refine WB.loop1 6 rfl s_do_cover.nd (nx := some (_, _, _)) ?_
        refine WI.tup <| .var 4 rfl ⟨_, rfl, ?_⟩
        refine ForB.step (fun (j : Nat) => D.int (j : Int)) (fun pre2 ρ M' => (∃ y z, ρ = [some (clothD K rows), some (.tup (bs.map barD)), none, none, some (.tup (natsD b.1)), some (.tup (natsD b.2)), y, z, none]) ∧ ∃ L, Cov rows m L (fun q => metB pre q || (decide (q.1 ∈ pre2) && decide (q.2 ∈ b.2))) ∧ M' = mset M Da (.kd w (kdL L))) ?_ ?_ ⟨⟨_, _, rfl⟩, L, cov.ext fun q => by simp, rfl⟩
        · rintro pre2 i post2 ρ M' e2 ⟨⟨y, z, rfl⟩, L2, cov2, rfl⟩
          have hi := bo.p.lt i (by rw [e2]; simp)
          refine ⟨_, rfl, .nil ⟨fun z => (nomatch z), fun _ => ?_⟩⟩
          refine WB.last1 7 rfl s_do_cover.nd ?_
          refine WI.tup <| .var 5 rfl ⟨_, rfl, ?_⟩
          refine ForB.step (fun (j : Nat) => D.int (j : Int)) (fun pre3 ρ M' => (∃ z, ρ = [some (clothD K rows), some (.tup (bs.map barD)), none, none, some (.tup (natsD b.1)), some (.tup (natsD b.2)), some (.int (i : Int)), z, none]) ∧ ∃ L, Cov rows m L (fun q => metB pre q || (decide (q.1 ∈ pre2) && decide (q.2 ∈ b.2)) || (decide (q.1 = i) && decide (q.2 ∈ pre3))) ∧ M' = mset M Da (.kd w (kdL L))) ?_ ?_ ⟨⟨_, rfl⟩, L2, cov2.ext fun q => by simp, rfl⟩
          · rintro pre3 j post3 ρ M' e3 ⟨⟨z, rfl⟩, L3, cov3, rfl⟩
            have hj := bo.e.lt j (by rw [e3]; simp)
            have hlen := grid_len cov3.nd cov3.lt
            have h4 := Nat.mul_le_mul r1 m1
            refine ⟨_, rfl, .nil ⟨fun z => (nomatch z), fun _ => ?_⟩⟩
            refine WB.emitK hr <| .tuple <| .cons <| .var 6 rfl <| .cons <| .var 7 rfl <| .nil ⟨by show 2 ≤ sizeLine; decide, .bl ⟨_, prK (i, j), kdL L3, rfl, pr_key (i, j), pr_depth _, mset_same, by unfold kdL; rw [List.length_map]; omega, ⟨_, rfl⟩, insL L3 (i, j), cov3.ins hi hj fun x => ?_, ?_⟩⟩
            · simp only [Bool.or_eq_true, Bool.and_eq_true, decide_eq_true_eq, List.mem_append, List.mem_singleton, Prod.ext_iff]
              constructor
              · rintro (h | ⟨h1, h2 | h2⟩)
                · exact .inl (.inl h)
                · exact .inl (.inr ⟨h1, h2⟩)
                · exact .inr ⟨h1, h2⟩
              · rintro ((h | ⟨h1, h2⟩) | ⟨h1, h2⟩)
                · exact .inl h
                · exact .inr ⟨h1, .inl h2⟩
                · exact .inr ⟨h1, .inr h2⟩
            · rw [mset_mset]
              exact congrArg (fun z => mset M Da (MO.kd w z)) (put_kdL L3 (i, j))
          · rintro ρ M' ⟨⟨z, rfl⟩, L3, cov3, rfl⟩
            refine ⟨⟨_, _, rfl⟩, L3, cov3.ext fun q => ?_, rfl⟩
            rw [Bool.eq_iff_iff]
            simp only [Bool.or_eq_true, Bool.and_eq_true, decide_eq_true_eq, List.mem_append, List.mem_singleton]
            constructor
            · rintro ((h | ⟨h1, h2⟩) | ⟨h1, h2⟩)
              · exact .inl h
              · exact .inr ⟨.inl h1, h2⟩
              · exact .inr ⟨.inr h1, h2⟩
            · rintro (h | ⟨h1 | h1, h2⟩)
              · exact .inl (.inl h)
              · exact .inl (.inr ⟨h1, h2⟩)
              · exact .inr ⟨h1, h2⟩
        · rintro ρ M' ⟨⟨y, z, rfl⟩, L2, cov2, rfl⟩
          exact ⟨L2, cov2.ext fun q => (met_snoc pre b q).symm, rfl⟩
      · rintro M' ⟨L, cov, rfl⟩
        refine .one <| .ret <| .drop Da <| .callB c.n_all rfl <| .cons ?_
        refine WE.lc1 8 [("crossing", 8)] rfl s_do_cover.nd (show BlkOk n_do_cover q_do_cover _ _ from ⟨rfl, by decide +kernel, by decide +kernel, by decide +kernel, by decide +kernel⟩) ?_
        refine WI.list <| .call (hr.mono (j := 1) (by omega)) c.g_crossings_raised c.f_crossings_raised.kp c.b_crossings_raised <| .cons <| .var 0 rfl <| .nil <| t_crossings_raised c ok ⟨_, rfl, ?_⟩
        have ul := upsTo_len ok (List.range rows.length)
        have ue : upsTo rows (List.range rows.length) = ups rows := rfl
        rw [ue, List.length_range] at ul
        have h4 := Nat.mul_le_mul_right 1000 r1
        refine CompT.map (fun d => match d with | .tup [.int p, .int e] => .bl (metB bs (p.toNat, e.toNat)) | _ => .non) (fun x hx => ?_) (by simp; omega) (.nil ?_)
        · obtain ⟨q, hq, rfl⟩ := List.mem_map.mp hx
          refine ⟨_, rfl, fun s H C cl fp => .cmp <| .var 8 rfl <| .var 3 rfl <| VO.inX hr mset_same (pr_key q) ⟨_, rfl⟩ (pr_depth q) ⟨?_, rfl⟩⟩
          rw [look_kdL]
          show D.bl _ = D.bl (metB bs (Int.toNat (q.1 : Int), Int.toNat (q.2 : Int)))
          rw [Int.toNat_natCast, Int.toNat_natCast]
          have := cov.iff q
          by_cases hm : q ∈ L
          · rw [if_pos hm, this.mp hm]; rfl
          · rw [if_neg hm]
            have h5 : metB bs q = false := by
              cases h6 : metB bs q with
              | false => rfl
              | true => exact absurd (this.mpr h6) hm
            rw [h5]; rfl
        · have e5 : ((ups rows).map prD).map (fun d => match d with | .tup [.int p, .int e] => D.bl (metB bs (p.toNat, e.toNat)) | _ => .non) = ((ups rows).map (metB bs)).map D.bl := by
            rw [List.map_map, List.map_map]
            refine List.map_congr_left fun q _ => ?_
            simp only [Function.comp, Int.toNat_natCast]
          rw [List.nil_append, e5]
          refine VC.all rfl ?_
          rw [mdel_mset hDa, List.all_map]
          exact hq
  | _ => exact ⟨fun _ => ⟨fun _ => .one <| .ret <| .bl h, fun z => nomatch z⟩, fun z => nomatch z⟩
end
end K82
end
section
set_option maxRecDepth 100000
set_option maxHeartbeats 0
/-! K82O: bars by presses. -/
namespace K82
open PySem PySem.Spec PyProof.Rows L2 TL
open He (ga ma fAd)
def treadleBar (v : LW) (ts : List (List Nat)) (i : Nat) : List Nat × List Nat := (ixs (fun t => decide (97 + i ∈ t)) ts, ixs (fun e => decide (e ∈ v.lifts.getD i [])) v.ends)
def fullBar (b : List Nat × List Nat) : Bool := !decide (b.1 = []) && !decide (b.2 = [])
def barsTo (v : LW) (ts : List (List Nat)) (l : List Nat) : List (List Nat × List Nat) := (l.map (treadleBar v ts)).filter fullBar
def barsBy (v : LW) (ts : List (List Nat)) : List (List Nat × List Nat) := barsTo v ts (List.range v.lifts.length)
theorem alpha_range {n : Nat} (h : n ≤ 26) : alpha.take n = (List.range n).map fun i => 97 + i := by
  have : ∀ n, n ≤ 26 → alpha.take n = (List.range n).map fun i => 97 + i := by decide +kernel
  exact this n h
theorem barsTo_len (v : LW) (ts : List (List Nat)) (l : List Nat) : (barsTo v ts l).length ≤ l.length := by
  unfold barsTo
  exact Nat.le_trans (List.length_filter_le _ _) (by simp)
section
variable {w : World} {K : PySem.W.Frag} {mg : Str → Option Value} {base : Heap} {M : Mp} {Q : DQ}
theorem nats_nil (l : List Nat) : decide (natsD l = []) = decide (l = []) := by cases l <;> simp [natsD]
theorem t_bars_by (c : E82 w K mg base) {v : LW} (ok : v.Ok) {ts : List (List Nat)} (hl : ts.length ≤ 1000) (h : Q (.tup ((barsBy v ts).map barD)) M) : TFn P82 w K mg base 3 (ga K "bars_by") (fdOf K ("bars_by", none)) ["loom", "presses"] [loomD K v, .tup (ts.map D.str)] M Q := by
  refine TFn.of c.f_bars_by s_bars_by rfl fun cdv A outer s H F hr => ?_
  have hs := sizeLine_eq
  have hu : (A.deeper (envOfC "bars_by" q_bars_by s.heap.objs.size (ga K "bars_by") cdv)).units < cLine := Nat.lt_of_le_of_lt (Nat.le_add_right _ 64) hr.room.units
  have l1 := ok.l1
  have e100 := ok.e1
  refine .cons <| .set 2 (.listM <| .nil ⟨by decide, fun p hp => ?_⟩) s_bars_by.nd
  refine .cons <| .for (L2.passes_of rfl) rfl ?_
  refine WI.str <| .fld <| .var 0 rfl ⟨_, v.insF, _, rfl, c.cls_Loom, c.no_Loom_letters, by rfl, ⟨_, rfl, ?_⟩⟩
  rw [alpha_range l1, List.map_map]
  refine ForT.map ((fun c => D.str [c]) ∘ fun i => 97 + i) (fun pre ρ M' => (∃ y3 y4 y5 y8, ρ = [some (loomD K v), some (.tup (ts.map D.str)), some (.ref p), y3, y4, y5, none, none, y8, none, none]) ∧ M' = mset M p (.lst ((barsTo v ts pre).map barD))) ?_ ?_ ⟨⟨_, _, _, _, rfl⟩, rfl⟩
  · rintro pre i post ρ M' e ⟨⟨y3, y4, y5, y8, rfl⟩, rfl⟩
    obtain ⟨hpl, hi⟩ := range_at e
    refine .nameN 3 s_bars_by.nd ?_
    refine .cons <| .setN 4 s_bars_by.nd <| .meth (hr.mono (j := 1) (by omega)) c.cls_Loom c.meth_Loom_lift_of c.b_Loom_lift_of <| .var 0 rfl ⟨v.insF, rfl, rfl, .cons <| .var 3 rfl <| .nil <| t_Loom_lift_of c hi l1 fun l hl' => ?_⟩
    have el : v.lifts.getD i [] = l := by rw [List.getD_eq_getElem?_getD, hl']; rfl
    refine .cons <| .setN 5 s_bars_by.nd <| .callTy c.n_tuple rfl <| .cons ?_
    refine WE.lc2 6 7 [("number", 6), ("press", 7)] rfl s_bars_by.nd (show BlkOk n_bars_by q_bars_by _ _ from ⟨rfl, by decide +kernel, by decide +kernel, by decide +kernel, by decide +kernel⟩) ?_
    refine WI.enum c.n_enumerate <| .var 1 rfl ⟨_, rfl, ?_⟩
    refine CompT.ixs (fun t => decide (97 + i ∈ t)) (fun j t hj => ⟨_, rfl, fun s H C cl fp => .cmp <| .var 3 rfl <| .var 7 rfl <| .inSign ⟨_, rfl, rfl, rfl⟩, fun s H C cl fp => .var 6 rfl ⟨rfl, rfl⟩⟩) (by omega) <| .nil <| VC.tupleL ?_
    refine .cons <| .setN 8 s_bars_by.nd <| .callTy c.n_tuple rfl <| .cons ?_
    refine WE.lc2 9 10 [("end", 9), ("shaft", 10)] rfl s_bars_by.nd (show BlkOk n_bars_by q_bars_by _ _ from ⟨rfl, by decide +kernel, by decide +kernel, by decide +kernel, by decide +kernel⟩) ?_
    refine WI.enum c.n_enumerate <| .fld <| .var 0 rfl ⟨_, v.insF, _, rfl, c.cls_Loom, c.no_Loom_threading, by rfl, ⟨_, rfl, ?_⟩⟩
    refine CompT.ixs (fun e => decide (e ∈ l)) (fun j t hj => ⟨_, rfl, fun s H C cl fp => .cmp <| .var 10 rfl <| .var 4 rfl <| .inT rfl (flat_ints _) ⟨_, rfl, by rw [any_ints], rfl⟩, fun s H C cl fp => .var 9 rfl ⟨rfl, rfl⟩⟩) (by omega) <| .nil <| VC.tupleL ?_
    have et : treadleBar v ts i = (ixs (fun t => decide (97 + i ∈ t)) ts, ixs (fun e => decide (e ∈ l)) v.ends) := by unfold treadleBar; rw [el]
    generalize ixs (fun t => decide (97 + i ∈ t)) ts = ps at *
    generalize ixs (fun e => decide (e ∈ l)) v.ends = es at *
    have eto : barsTo v ts (pre ++ [i]) = barsTo v ts pre ++ (if fullBar (ps, es) = true then [(ps, es)] else []) := by
      unfold barsTo
      rw [List.map_append, List.filter_append]
      simp only [List.map_cons, List.map_nil, et, List.filter_cons, List.filter_nil]
    refine .one <| .ite <| .ww <| .and <| .cmp <| .var 5 rfl <| .tuple <| .nil ⟨by decide, VO.neT0 hu ⟨_, rfl, ?_⟩⟩
    rw [nats_nil]
    by_cases h1 : ps = []
    · rw [decide_eq_true h1]
      refine ⟨fun _ => ⟨fun z => (nomatch z), fun _ => .done ⟨⟨_, _, _, _, rfl⟩, ?_⟩⟩, fun z => nomatch z⟩
      rw [eto, if_neg (by simp [fullBar, h1]), List.append_nil]
    · rw [decide_eq_false h1]
      refine ⟨fun z => (nomatch z), fun _ => .and1 <| .cmp <| .var 8 rfl <| .tuple <| .nil ⟨by decide, VO.neT0 hu ⟨_, rfl, ?_⟩⟩⟩
      rw [nats_nil]
      by_cases h2 : es = []
      · rw [decide_eq_true h2]
        refine ⟨fun z => (nomatch z), fun _ => .done ⟨⟨_, _, _, _, rfl⟩, ?_⟩⟩
        rw [eto, if_neg (by simp [fullBar, h2]), List.append_nil]
      · rw [decide_eq_false h2]
        refine ⟨fun _ => ?_, fun z => nomatch z⟩
        have bl := barsTo_len v ts pre
        refine .one <| .expr <| .bm PySem.F.plainAttrs_list PySem.F.slot_list_append PySem.F.type_list_append <| .var 2 rfl ⟨.lstM mset_same, .cons <| .tuple <| .cons <| .var 5 rfl <| .cons <| .var 8 rfl <| .nil ⟨by show 2 ≤ sizeLine; decide, .nil <| VM.append mset_same (by rw [List.length_map]; omega) ⟨⟨_, _, _, _, rfl⟩, ?_⟩⟩⟩
        rw [mset_mset, eto, if_pos (by simp [fullBar, h1, h2]), List.map_append]
        rfl
  · rintro ρ M' ⟨⟨y3, y4, y5, y8, rfl⟩, rfl⟩
    refine ⟨[some (loomD K v), some (.tup (ts.map D.str)), some (.ref p), none, none, none, none, none, none, none, none], by simp [Le], ?_⟩
    refine .one <| .ret <| .drop p <| .callTy c.n_tuple rfl <| .cons <| .var 2 rfl <| .nil <| VC.tupleM mset_same ?_
    rw [mdel_mset hp]
    exact h
end
end K82
end
section
set_option maxRecDepth 100000
set_option maxHeartbeats 0
/-! K82L: the law's deck. -/
namespace K82
open PySem PySem.Spec PyProof.Rows L2 TL
open He (ga ma fAd)
theorem range_split {N : Nat} {pre post : List Nat} {x : Nat} (e : List.range N = pre ++ x :: post) : pre = List.range x ∧ x < N := by
  have h1 : (List.range N)[pre.length]? = some x := by rw [e]; simp
  have hlt : pre.length < N := by
    have := congrArg List.length e
    simp at this; omega
  rw [List.getElem?_eq_getElem (by simpa using hlt)] at h1
  have h2 : pre.length = x := by simpa using h1
  refine ⟨?_, by omega⟩
  have h3 := congrArg (List.take pre.length) e
  rw [List.take_left, List.take_range, Nat.min_eq_left (by omega), h2] at h3
  exact h3.symm
/-- rising lists -/
theorem rise_of : ∀ {l : List Int}, l.Pairwise (· < ·) → riseB l = true
  | [], _ => rfl
  | [x], _ => rfl
  | x :: y :: l, h => by
    have h1 := rise_of (l := y :: l) (List.pairwise_cons.mp h).2
    have h2 := (List.pairwise_cons.mp h).1 y (List.mem_cons_self ..)
    unfold riseB at h1 ⊢
    simp only [List.drop_succ_cons, List.drop_zero, List.zipWith_cons_cons, List.all_cons, Bool.and_eq_true, decide_eq_true_eq] at h1 ⊢
    exact ⟨h2, h1⟩
theorem sort_lt {l : List Int} (h : l.Nodup) : (sortI l).Pairwise (· < ·) := by
  have h1 := sortI_le l
  have h2 : (sortI l).Nodup := (sortI_perm l).nodup_iff.mpr h
  exact (h1.and h2).imp fun ⟨a, b⟩ => by omega
theorem mem_sort {l : List Int} {x : Int} : x ∈ sortI l ↔ x ∈ l := (sortI_perm l).mem_iff
section
variable {w : World} {K : PySem.W.Frag} {mg : Str → Option Value} {base : Heap} {M : Mp} {Q : DQ}
/-- behind a draw -/
theorem t_draw (c : E82 w K mg base) {a l : Addr} {k : Dk} (hn : l ≠ a) {b : Int} (hb : 0 < b) (hb2 : b < 1073741824) {n : Nat} (kn : DkN k n) (hd : n < 1000000) (h : ∀ v k', 0 ≤ v → v < b → DkN k' (n + 1) → Q (.int v) (dkM a l k' M)) :
    TFn P82 w K mg base 1 (ga K "_law_draw") (fdOf K ("_law_draw", none)) ["_law_deck_here", "_law_below"] [.ref a, .int b] (dkM a l k M) Q := by
  refine TFn.of c.f__law_draw s__law_draw rfl fun cdv A outer s H F hr => ?_
  have hu := hr.room.units
  have kd := kn.d
  have kc := kn.c
  have hu1 : (A.deeper (envOfC "_law_draw" q__law_draw s.heap.objs.size (ga K "_law_draw") cdv)).units + 1 < cLine := by omega
  have below : ∀ x : Int, 0 ≤ x % b ∧ x % b < b := fun x => ⟨Int.emod_nonneg _ (by omega), Int.emod_lt_of_pos _ hb⟩
  refine .cons (.asg (.bin (.ix (.var 0 rfl (.str (VI.getM hu1 dk_at (sk_str _) dk_look3 (.int (VO.add ?_))))))))
  refine .sub (.var 0 rfl (.str (VT.dic hu1 dk_at (sk_str _) (by show 3 < sizeLine; decide) ?_)))
  rw [show ((k.draws : Int) + 1) = ((k.draws + 1 : Nat) : Int) by omega, dk_put, dk_setA (k := k) (k' := { k with draws := k.draws + 1 }) rfl]
  refine .cons (.par 2 3 rfl s__law_draw.nd (.cons (.ix (.var 0 rfl (.str (VI.getM hu1 dk_at (sk_str _) dk_look3 ?_))))))
  refine .cons (.ix (.var 0 rfl (.str (VI.getM hu1 dk_at (sk_str _) dk_look2 (.nil ⟨_, _, rfl, ?_⟩)))))
  -- the figures behind
  have fin : ∀ (f : Int) (k' : Dk) (x4 : Option D), DkN k' (n + 1) → WSs (cxOf (L2.CX P82 w) P82 w K mg base n__law_draw "_law_draw" q__law_draw (ga K "_law_draw") cdv A outer s H (XEnd K H F (dkM a l k M) noX)) ((defBody (top 45)).drop 3)
      [some (.ref a), some (.int b), some (.int ((k.draws + 1 : Nat) : Int)), some (.int f), x4] (dkM a l k' M) { nx := fun _ M' => Q .non M', rt := Q } := by
    intro f k' x4 hk'
    refine .cons <| .setN 3 s__law_draw.nd <| .bin <| .bin <| .callTy c.n_int rfl <| .cons <| .bin <| .bin <| .bin <| .callTy c.n_int rfl <| .cons <| .var 3 rfl <| .nil <| VC.int1 <| .int <| VO.modG (by decide) fun r1 h1 h2 => ?_
    refine .bin <| .bin <| .int <| .var 2 rfl <| VO.mulS (by decide) (by decide) <| .var 2 rfl <| VO.mulR (by omega) (by omega) <| VO.add <| .int <| VO.add <| .nil <| VC.int1 <| .int <| VO.mulR (by decide) (by decide) <| .int <| VO.modG (by decide) fun r2 h3 h4 => ?_
    refine .cons <| .setN 3 s__law_draw.nd <| .bin <| .callTy c.n_int rfl <| .cons <| .bin <| .bin <| .bin <| .var 3 rfl <| .var 3 rfl <| VO.mulR (by omega) (by omega) <| .bin <| .int <| .var 2 rfl <| VO.mulS (by decide) (by decide) <| VO.add <| .int <| VO.add <| .nil <| VC.int1 <| .int <| VO.modG (by decide) fun r3 h5 h6 => ?_
    refine .one <| .ret <| .bin <| .bin <| .bin <| .callTy c.n_int rfl <| .cons <| .bin <| .var 3 rfl <| .int <| VO.mulR (by decide) (by decide) <| .nil <| VC.int1 <| .int <| VO.modG (by decide) fun r4 h7 h8 => .int <| VO.fdiv (by decide) (by decide) <| .var 1 rfl <| VO.modG hb fun v v0 v1 => ?_
    exact h v k' v0 v1 hk'
  refine .cons <| .ite <| .cmp <| .ix <| .var 0 rfl <| .str <| VI.getM hu1 dk_at (sk_str _) dk_look1 <| .list <| .nil ⟨by show 0 ≤ sizeLine; decide, ?_⟩
  refine VO.neDM (dk_cells hn) hu (shp_lints _) shp_nil ⟨_, rfl, fun z => ?_, fun z => .done ?_⟩
  · rw [eqD_lnil] at z
    have hne : k.cells ≠ [] := by simpa using z
    obtain ⟨xs, d, hx⟩ : ∃ xs d, k.cells = xs ++ [d] := ⟨_, _, (List.dropLast_concat_getLast hne).symm⟩
    refine .cons <| .setN 4 s__law_draw.nd <| .callTy c.n_int rfl <| .cons <| .bm0 PySem.F.plainAttrs_list PySem.F.slot_list_pop PySem.F.type_list_pop <| .ix <| .var 0 rfl <| .str <| VI.getM hu1 dk_at (sk_str _) dk_look1 ⟨.lstM (dk_cells hn), ?_⟩
    refine VM.pop (xs := xs.map D.int) (d := .int d) (by rw [dk_cells hn, hx, List.map_append]; rfl) ?_
    rw [dk_setC hn]
    refine .nil <| VC.int1 ?_
    refine .cons <| .ite <| .cmp <| .var 4 rfl <| .bin <| .int <| .int <| VO.pow ⟨by decide, by decide, by decide⟩ <| VO.ge ⟨_, rfl, fun z2 => ?_, fun z2 => .done ?_⟩
    · refine .cons <| .expr <| .bm PySem.F.plainAttrs_list PySem.F.slot_list_append PySem.F.type_list_append <| .ix <| .var 0 rfl <| .str <| VI.getM hu1 dk_at (sk_str _) dk_look1 ⟨.lstM (dk_cells hn), ?_⟩
      refine .cons <| .bin <| .var 4 rfl <| .var 1 rfl <| VO.fdiv hb hb2 <| .nil <| VM.append (dk_cells hn) ?_ ?_
      · have := congrArg List.length hx
        rw [List.length_append] at this
        rw [List.length_map, sizeLine_eq]
        show xs.length < _
        omega
      · rw [show (xs.map D.int ++ [D.int (d / b)]) = (xs ++ [d / b]).map D.int by rw [List.map_append]; rfl, dk_setC hn]
        refine .one <| .ret <| .bin <| .var 4 rfl <| .var 1 rfl <| VO.modG hb fun v v0 v1 => h v _ v0 v1 ⟨by have := congrArg List.length hx; simp at this ⊢; omega, by show k.draws + 1 ≤ _; omega⟩
    · refine .one <| .setN 3 s__law_draw.nd <| .bin <| .var 3 rfl <| .bin <| .var 4 rfl <| .int <| VO.modG (by decide) fun r h1 h2 => VO.add ?_
      exact fin _ _ _ ⟨by have := congrArg List.length hx; simp at this ⊢; omega, by show k.draws + 1 ≤ _; omega⟩
  · exact fin _ _ _ ⟨kc, by show k.draws + 1 ≤ _; omega⟩
/-- one of some -/
theorem t_pick (c : E82 w K mg base) {a l : Addr} {k : Dk} (hn : l ≠ a) {n : Nat} (kn : DkN k n) (hd : n < 1000000) {z : D} {ds : List D} (hz : Pk a l M z ds) (h0 : ds ≠ []) (hl : ds.length ≤ 1000)
    (h : ∀ d ∈ ds, ∀ k', DkN k' (n + 1) → Q d (dkM a l k' M)) :
    TFn P82 w K mg base 2 (ga K "_law_pick") (fdOf K ("_law_pick", none)) ["_law_deck_here", "_law_some"] [.ref a, z] (dkM a l k M) Q := by
  refine TFn.of c.f__law_pick s__law_pick rfl fun cdv A outer s H F hr => ?_
  have hpos : 0 < ds.length := List.length_pos_iff.mpr h0
  have key : ∀ v : Int, 0 ≤ v → v < (ds.length : Nat) → ∃ i, v = ((i : Nat) : Int) ∧ ∃ hi : i < ds.length, ∀ k', DkN k' (n + 1) → Q ds[i] (dkM a l k' M) := fun v h1 h2 =>
    ⟨v.toNat, by omega, by omega, fun k' q => h _ (List.getElem_mem _) k' q⟩
  have hs := sizeLine_eq
  refine .one <| .ret <| .ix <| .var 1 rfl <| .call hr c.g__law_draw c.f__law_draw.kp c.b__law_draw <| .cons <| .var 0 rfl <| .cons <| .callB c.n_len rfl <| .cons <| .var 1 rfl <| .nil ?_
  cases hz with
  | lst =>
    refine VC.len (n := ds.length) (by simp [lenD]) <| .nil <| t_draw c hn (by omega) (by omega) kn hd fun v k' v0 v1 q => ?_
    obtain ⟨i, rfl, hi, hq⟩ := key v v0 v1
    exact VI.lst (by rw [TL.atI_nat, List.getElem?_eq_getElem hi]) (hq k' q)
  | tup =>
    refine VC.len (n := ds.length) (by simp [lenD]) <| .nil <| t_draw c hn (by omega) (by omega) kn hd fun v k' v0 v1 q => ?_
    obtain ⟨i, rfl, hi, hq⟩ := key v v0 v1
    exact VI.tup (by rw [TL.atI_nat, List.getElem?_eq_getElem hi]) (hq k' q)
  | str x =>
    rw [List.length_map] at hl hpos
    refine VC.len (n := x.length) (by simp [lenD]; omega) <| .nil <| t_draw c hn (by omega) (by omega) kn hd fun v k' v0 v1 q => ?_
    obtain ⟨i, rfl, hi, hq⟩ := key v v0 (by rw [List.length_map]; exact v1)
    have := hq k' q
    rw [List.length_map] at hi
    rw [List.getElem_map] at this
    exact VI.str (by omega) (by rw [TL.atI_nat, List.getElem?_eq_getElem hi]) this
  | ref h1 h2 hp =>
    refine VC.lenM (by rw [dk_else h1 h2]; exact hp) <| .nil <| t_draw c hn (by omega) (by omega) kn hd fun v k' v0 v1 q => ?_
    obtain ⟨i, rfl, hi, hq⟩ := key v v0 v1
    exact VI.lstM (by rw [dk_else h1 h2]; exact hp) (by rw [TL.atI_nat, List.getElem?_eq_getElem hi]) (hq k' q)
end
end K82
end
section
set_option maxRecDepth 100000
set_option maxHeartbeats 0
/-! K82M: the law's looms. -/
namespace K82
open PySem PySem.Spec PyProof.Rows L2 TL
open He (ga ma fAd)
/-- the parts of a loom, as the law has them -/
def wO (v : LW) : List (Key × D) := [(sk "shafts", .int v.sh), (sk "ends", tupI v.ends), (sk "lifts", .tup (v.lifts.map tupI))]
def wD (v : LW) : D := .dic (wO v)
theorem w_look1 {v : LW} : lookK (wO v) (sk "shafts") = some (.int v.sh) := by unfold wO; rw [lookK_cons, if_pos rfl]
theorem w_look2 {v : LW} : lookK (wO v) (sk "ends") = some (tupI v.ends) := by
  have h : ¬ lit "shafts" = lit "ends" := by decide +kernel
  unfold wO; simp [lookK_cons, h]
theorem w_look3 {v : LW} : lookK (wO v) (sk "lifts") = some (.tup (v.lifts.map tupI)) := by
  have h : ¬ lit "shafts" = lit "lifts" := by decide +kernel
  have h2 : ¬ lit "ends" = lit "lifts" := by decide +kernel
  unfold wO; simp [lookK_cons, h, h2]
theorem w_merge {v : LW} : mergeG [] (wO v) = wO v := merge_nodup (show ([sk "shafts", sk "ends", sk "lifts"] : List Key).Nodup by decide +kernel)
/-- what the law draws -/
structure LawW (v : LW) : Prop where
  ok : v.Ok
  s4 : v.sh ≤ 4
  e9 : v.ends.length ≤ 9
  l4 : v.lifts.length ≤ 4
structure LiftOk (sh : Int) (l : List Int) : Prop where
  nd : l.Nodup
  bd : ∀ i ∈ l, 0 ≤ i ∧ i < sh
theorem LiftOk.len {sh : Int} {l : List Int} (h : LiftOk sh l) (h4 : sh ≤ 4) : l.length ≤ 4 := nodup_len 4 l h.nd fun x hx => by have := h.bd x hx; omega
section
variable {w : World} {K : PySem.W.Frag} {mg : Str → Option Value} {base : Heap} {M : Mp} {Q : DQ}
/-- in the midst of a lift -/
def LoomR (a p q l : Addr) (sh : Int) (mn i n : Nat) (es : List Int) (ls : List (List Int)) (M : Mp) (m : Nat) : En → Mp → Prop := fun ρ M' => ∃ (xs : List Int) (k' : Dk), LiftOk sh xs ∧ DkN k' (n + 20 + 10 * i + m) ∧
  ρ = [some (.ref a), some (.int sh), some (.int mn), some (.ref p), some (.int i), some (.ref q), some (.lst (xs.map D.int)), none] ∧ M' = dkM a l k' (mset (mset M p (.lst (es.map D.int))) q (.lst (ls.map tupI)))
theorem t_law_loom (c : E82 w K mg base) {a l : Addr} {k : Dk} (hn : l ≠ a) {n : Nat} (kn : DkN k n) (hd : n < 900000)
    (h : ∀ v k', LawW v → v.ends.length ≤ 7 → DkN k' (n + 100) → Q (wD v) (dkM a l k' M)) :
    TFn P82 w K mg base 3 (ga K "_law_loom") (fdOf K ("_law_loom", none)) ["_law_deck_here"] [.ref a] (dkM a l k M) Q := by
  refine TFn.of c.f__law_loom s__law_loom rfl fun cdv A outer s H F hr => ?_
  have hr1 := hr.mono (j := 1) (by omega)
  have hs := sizeLine_eq
  refine .cons <| .par 1 2 rfl s__law_loom.nd <| .cons <| .call hr c.g__law_pick c.f__law_pick.kp c.b__law_pick <| .cons <| .var 0 rfl <| .cons <| .list <| .cons <| .int <| .cons <| .int <| .cons <| .int <| .cons <| .int <| .cons <| .int <| .cons <| .int <| .cons <| .int <| .cons <| .int <| .nil ⟨by show 8 ≤ sizeLine; decide, .nil ?_⟩
  refine t_pick c hn kn (by omega) (.lst _) (by simp) (by simp) fun d hd' k1 kn1 => ?_
  obtain ⟨sh, rfl, s1, s4⟩ : ∃ sh : Int, d = .int sh ∧ 1 ≤ sh ∧ sh ≤ 4 := by
    simp at hd'
    rcases hd' with rfl | rfl | rfl | rfl <;> exact ⟨_, rfl, by decide, by decide⟩
  refine .cons <| .call hr c.g__law_pick c.f__law_pick.kp c.b__law_pick <| .cons <| .var 0 rfl <| .cons <| .list <| .cons <| .int <| .cons <| .int <| .cons <| .int <| .cons <| .int <| .cons <| .int <| .cons <| .int <| .cons <| .int <| .cons <| .int <| .nil ⟨by show 8 ≤ sizeLine; decide, .nil ?_⟩
  refine t_pick c hn kn1 (by omega) (.lst _) (by simp) (by simp) fun d hd' k2 kn2 => ?_
  obtain ⟨mn, rfl, m1, m4⟩ : ∃ mn : Nat, d = .int mn ∧ 1 ≤ mn ∧ mn ≤ 4 := by
    simp at hd'
    rcases hd' with rfl | rfl | rfl | rfl
    · exact ⟨1, rfl, by decide, by decide⟩
    · exact ⟨2, rfl, by decide, by decide⟩
    · exact ⟨3, rfl, by decide, by decide⟩
    · exact ⟨4, rfl, by decide, by decide⟩
  refine .nil ⟨_, _, rfl, ?_⟩
  -- the ends
  refine .cons <| .setN 3 s__law_loom.nd <| .listM <| .nil ⟨by show 0 ≤ sizeLine; decide, fun p hp => ?_⟩
  obtain ⟨pa, pl, hp⟩ := dk_none hp
  rw [dk_mset pa pl]
  refine .cons <| .for (L2.passes_of rfl) rfl ?_
  refine WI.range1 c.n_range <| .call hr c.g__law_pick c.f__law_pick.kp c.b__law_pick <| .cons <| .var 0 rfl <| .cons <| .list <| .cons <| .int <| .cons <| .int <| .cons <| .int <| .cons <| .int <| .cons <| .int <| .cons <| .int <| .cons <| .int <| .nil ⟨by show 7 ≤ sizeLine; decide, .nil ?_⟩
  refine t_pick c hn kn2 (by omega) (.lst _) (by simp) (by simp) fun d hd' k3 kn3 => ?_
  obtain ⟨en, rfl, e1, e7⟩ : ∃ en : Nat, d = .int en ∧ 1 ≤ en ∧ en ≤ 7 := by
    simp at hd'
    rcases hd' with rfl | rfl | rfl | rfl | rfl | rfl | rfl
    · exact ⟨1, rfl, by decide, by decide⟩
    · exact ⟨2, rfl, by decide, by decide⟩
    · exact ⟨3, rfl, by decide, by decide⟩
    · exact ⟨4, rfl, by decide, by decide⟩
    · exact ⟨5, rfl, by decide, by decide⟩
    · exact ⟨6, rfl, by decide, by decide⟩
    · exact ⟨7, rfl, by decide, by decide⟩
  refine ⟨_, rfl, by omega, by omega, ?_⟩
  rw [Int.toNat_natCast]
  unfold rng
  refine ForT.map (fun (i : Nat) => D.int (0 + (i : Int))) (fun pre ρ M' => (∃ x4, ρ = [some (.ref a), some (.int sh), some (.int mn), some (.ref p), x4, none, none, none]) ∧ ∃ (es : List Int) (k' : Dk), es.length = pre.length ∧ (∀ i ∈ es, 0 ≤ i ∧ i < sh) ∧ DkN k' (n + 3 + 2 * pre.length) ∧ M' = dkM a l k' (mset M p (.lst (es.map D.int)))) ?_ ?_ ⟨⟨none, rfl⟩, [], k3, rfl, by simp, kn3, rfl⟩
  · rintro pre i post ρ M' e ⟨⟨x4, rfl⟩, es, k', el, eb, kn', rfl⟩
    obtain ⟨rfl, hi⟩ := range_split e
    rw [List.length_range] at el kn'
    refine .nameN 4 s__law_loom.nd ?_
    rw [Int.zero_add]
    have app : ∀ (x : Int) k'', 0 ≤ x → x < sh → DkN k'' (n + 3 + 2 * (i + 1)) → ∃ (es' : List Int) (k' : Dk), es'.length = (List.range i ++ [i]).length ∧ (∀ i ∈ es', 0 ≤ i ∧ i < sh) ∧ DkN k' (n + 3 + 2 * (List.range i ++ [i]).length) ∧ mset (dkM a l k'' (mset M p (.lst (es.map D.int)))) p (.lst (es.map D.int ++ [.int x])) = dkM a l k' (mset M p (.lst (es'.map D.int))) := by
      intro x k'' x0 x1 kn''
      refine ⟨es ++ [x], k'', by simp [el], ?_, by simpa using kn'', ?_⟩
      · intro y hy
        rcases List.mem_append.mp hy with hy | hy
        · exact eb y hy
        · rw [List.mem_singleton.mp hy]; exact ⟨x0, x1⟩
      · rw [dk_mset pa pl, mset_mset, List.map_append]; rfl
    refine .one <| .expr <| .bm PySem.F.plainAttrs_list PySem.F.slot_list_append PySem.F.type_list_append <| .var 3 rfl ⟨.lstM (by rw [dk_else pa pl, mset_same]), ?_⟩
    refine .cons <| .ife <| .cmp <| .call hr1 c.g__law_draw c.f__law_draw.kp c.b__law_draw <| .cons <| .var 0 rfl <| .cons <| .int <| .nil <| t_draw c hn (by decide) (by decide) kn' (by omega) fun v k4 v0 v1 kn4 => .int <| VO.gt ⟨_, rfl, fun z => ?_, fun z => ?_⟩
    · exact .bin <| .callTy c.n_int rfl <| .cons <| .var 4 rfl <| .nil <| VC.int1 <| .var 1 rfl <| VO.modG (by omega) fun r r0 r1 => .nil <| VM.append (by rw [dk_else pa pl, mset_same]) (by rw [List.length_map]; omega) ⟨⟨_, rfl⟩, app r k4 r0 r1 (kn4.mono (by omega))⟩
    · exact .call hr1 c.g__law_draw c.f__law_draw.kp c.b__law_draw <| .cons <| .var 0 rfl <| .cons <| .var 1 rfl <| .nil <| t_draw c hn (by omega) (by omega) kn4 (by omega) fun v k5 v0 v1 kn5 => .nil <| VM.append (by rw [dk_else pa pl, mset_same]) (by rw [List.length_map]; omega) ⟨⟨_, rfl⟩, app v k5 v0 v1 (kn5.mono (by omega))⟩
  rintro ρ M' ⟨⟨x4, rfl⟩, es, k', el, eb, kn', rfl⟩
  rw [List.length_range] at el kn'
  refine ⟨[some (.ref a), some (.int sh), some (.int mn), some (.ref p), none, none, none, none], by simp [Le], ?_⟩
  -- the lifts
  refine .cons <| .setN 5 s__law_loom.nd <| .listM <| .nil ⟨by show 0 ≤ sizeLine; decide, fun q hq => ?_⟩
  obtain ⟨qa, ql, hq⟩ := dk_none hq
  have qp : q ≠ p := fun e => by rw [e, mset_same] at hq; cases hq
  rw [mset_ne qp] at hq
  rw [dk_mset qa ql]
  refine .cons <| .for (L2.passes_of rfl) rfl ?_
  refine WI.range1 c.n_range <| .var 2 rfl ⟨_, rfl, by omega, by omega, ?_⟩
  rw [Int.toNat_natCast]
  unfold rng
  refine ForT.map (fun (i : Nat) => D.int (0 + (i : Int))) (fun pre ρ M' => (∃ x4 x6, ρ = [some (.ref a), some (.int sh), some (.int mn), some (.ref p), x4, some (.ref q), x6, none]) ∧ ∃ (ls : List (List Int)) (k' : Dk), ls.length = pre.length ∧ (∀ i ∈ ls, LiftOk sh i ∧ riseB i = true) ∧ DkN k' (n + 20 + 10 * pre.length) ∧ M' = dkM a l k' (mset (mset M p (.lst (es.map D.int))) q (.lst (ls.map tupI)))) ?_ ?_ ⟨⟨none, none, rfl⟩, [], k', rfl, by simp, kn'.mono (by simp; omega), rfl⟩
  · rintro pre i post ρ M' e ⟨⟨x4, x6, rfl⟩, ls, k', ll, lb, kn', rfl⟩
    obtain ⟨rfl, hi⟩ := range_split e
    rw [List.length_range] at ll kn'
    refine .nameN 4 s__law_loom.nd ?_
    rw [Int.zero_add]
    have atq : ∀ k', dkM a l k' (mset (mset M p (.lst (es.map D.int))) q (.lst (ls.map tupI))) q = some (.lst (ls.map tupI)) := fun k' => by rw [dk_else qa ql, mset_same]
    refine .cons <| WS.setLc1 6 7 [("_law_n", 7)] rfl s__law_loom.nd (show BlkOk n__law_loom q__law_loom _ _ from ⟨rfl, by decide +kernel, by decide +kernel, by decide +kernel, by decide +kernel⟩) ?_
    refine WI.range1 c.n_range <| .var 1 rfl ⟨_, rfl, by omega, by omega, ?_⟩
    unfold rng
    refine CompT.stepIf (fun (i : Nat) => D.int (0 + (i : Int))) (fun pre acc M' => ∃ (xs : List Int) (k' : Dk), acc = xs.map D.int ∧ xs.Sublist (pre.map fun (i : Nat) => (i : Int)) ∧ DkN k' (n + 20 + 10 * i + pre.length) ∧ M' = dkM a l k' (mset (mset M p (.lst (es.map D.int))) q (.lst (ls.map tupI)))) ?_ (by rw [List.length_range]; omega) ?_ ⟨[], k', rfl, by simp, kn', rfl⟩
    · rintro pre j post acc M' e2 ⟨xs, k', rfl, sl, kn', rfl⟩
      have hpl : pre.length < 4 := by
        have := congrArg List.length e2
        simp at this; omega
      refine ⟨_, rfl, fun b M1 => ∃ k', DkN k' (n + 20 + 10 * i + pre.length + 1) ∧ M1 = dkM a l k' (mset (mset M p (.lst (es.map D.int))) q (.lst (ls.map tupI))), fun s H C cl fp => ?_, ?_, ?_⟩
      · exact .cmp <| .call hr1 c.g__law_draw c.f__law_draw.kp c.b__law_draw <| .cons <| .var 0 rfl <| .cons <| .int <| .nil <| t_draw c hn (by decide) (by decide) kn' (by omega) fun v k4 v0 v1 kn4 => .int <| VO.eqI ⟨_, rfl, k4, kn4, rfl⟩
      · rintro M1 ⟨k4, kn4, rfl⟩
        exact ⟨xs, k4, rfl, by rw [List.map_append]; exact sl.trans (List.sublist_append_left ..), by rw [List.length_append]; exact kn4, rfl⟩
      · rintro M1 ⟨k4, kn4, rfl⟩
        exact fun s H C cl fp => .var 7 rfl ⟨xs ++ [(j : Int)], k4, by rw [List.map_append, Int.zero_add]; rfl, by rw [List.map_append]; exact sl.append (List.Sublist.refl _), by rw [List.length_append]; exact kn4, rfl⟩
    rintro acc M' ⟨xs, k', rfl, sl, kn', rfl⟩
    rw [List.length_range] at kn'
    have lo : LiftOk sh xs := by
      refine ⟨sl.nodup (List.Pairwise.map (fun (i : Nat) => (i : Int)) (fun a b h => by omega) List.nodup_range), fun y hy => ?_⟩
      obtain ⟨j, hj, rfl⟩ := List.mem_map.mp (sl.subset hy)
      have := List.mem_range.mp hj
      omega
    have shn : sh.toNat ≤ 4 := by omega
    refine .cut (LoomR a p q l sh mn i n es ls M 6) ?_ ?_
    · refine .ite <| .ww <| .and <| .cmp <| .var 4 rfl <| .int <| VO.gt ⟨_, rfl, fun z => ⟨fun z => (nomatch z), fun _ => .done ⟨xs, k', lo, kn'.mono (by omega), rfl, rfl⟩⟩, fun z => ?_⟩
      have z := of_decide_eq_true z
      refine .and1 <| .cmp <| .call hr1 c.g__law_draw c.f__law_draw.kp c.b__law_draw <| .cons <| .var 0 rfl <| .cons <| .int <| .nil <| t_draw c hn (by decide) (by decide) kn' (by omega) fun v k4 v0 v1 kn4 => .int <| VO.eqI ⟨_, rfl, fun _ => ?_, fun _ => .done ⟨xs, k4, lo, kn4.mono (by omega), rfl, rfl⟩⟩
      refine .one <| .setN 6 s__law_loom.nd <| .callTy c.n_list rfl <| .cons <| .call hr c.g__law_pick c.f__law_pick.kp c.b__law_pick <| .cons <| .var 0 rfl <| .cons <| .var 5 rfl <| .nil <| t_pick c hn kn4 (by omega) (.ref qa ql mset_same) (by
        intro e
        have := congrArg List.length e
        rw [List.length_map, ll] at this
        simp at this; omega) (by rw [List.length_map]; omega) fun d hd' k5 kn5 => ?_
      obtain ⟨m, hm, rfl⟩ := List.mem_map.mp hd'
      exact .nil <| VC.listT ⟨m, k5, (lb m hm).1, kn5.mono (by omega), rfl, rfl⟩
    rintro ρ' M' ⟨xs, k', lo, kn', rfl, rfl⟩
    refine .cut (LoomR a p q l sh mn i n es ls M 7) ?_ ?_
    · refine .ite <| .ww <| .and <| .cmp <| .var 1 rfl <| .int <| VO.gt ⟨_, rfl, fun z => ⟨fun z => (nomatch z), fun _ => .done ⟨xs, k', lo, kn'.mono (by omega), rfl, rfl⟩⟩, fun z => ?_⟩
      have z := of_decide_eq_true z
      refine .and1 <| .cmp <| .call hr1 c.g__law_draw c.f__law_draw.kp c.b__law_draw <| .cons <| .var 0 rfl <| .cons <| .int <| .nil <| t_draw c hn (by decide) (by decide) kn' (by omega) fun v k4 v0 v1 kn4 => .int <| VO.eqI ⟨_, rfl, fun _ => ?_, fun _ => .done ⟨xs, k4, lo, kn4.mono (by omega), rfl, rfl⟩⟩
      have xl := lo.len s4
      refine .one <| .setN 6 s__law_loom.nd <| .bin ?_
      refine WE.lc1 7 [("_law_n", 7)] rfl s__law_loom.nd (show BlkOk n__law_loom q__law_loom _ _ from ⟨rfl, by decide +kernel, by decide +kernel, by decide +kernel, by decide +kernel⟩) ?_
      refine WI.list <| .var 6 rfl ⟨_, rfl, ?_⟩
      refine CompT.stepIf D.int (fun pre acc M' => acc = (pre.filter fun x => decide (x ≠ 1)).map D.int ∧ M' = dkM a l k4 (mset (mset M p (.lst (es.map D.int))) q (.lst (ls.map tupI)))) ?_ (by omega) ?_ ⟨rfl, rfl⟩
      · rintro pre x post acc M' e2 ⟨rfl, rfl⟩
        refine ⟨_, rfl, fun b M1 => b = decide (x ≠ 1) ∧ M1 = dkM a l k4 (mset (mset M p (.lst (es.map D.int))) q (.lst (ls.map tupI))), fun s H C cl fp => .cmp <| .var 7 rfl <| .int <| VO.neI ⟨_, rfl, by simp, rfl⟩, ?_, ?_⟩
        · rintro M1 ⟨z, rfl⟩
          have := of_decide_eq_false z.symm
          exact ⟨by rw [List.filter_append]; simp [show x = 1 by omega], rfl⟩
        · rintro M1 ⟨z, rfl⟩
          have := of_decide_eq_true z.symm
          exact fun s H C cl fp => .var 7 rfl ⟨by rw [List.filter_append]; simp [this], rfl⟩
      rintro acc M' ⟨rfl, rfl⟩
      have fl : (xs.filter fun x => decide (x ≠ 1)).length ≤ xs.length := List.length_filter_le ..
      have fn : (xs.filter fun x => decide (x ≠ 1)).Nodup := lo.nd.filter _
      have fb : ∀ y ∈ xs.filter fun x => decide (x ≠ 1), y ∈ xs ∧ y ≠ 1 := fun y hy => by simpa using hy
      refine .ife <| .cmp <| .int <| .var 6 rfl <| VO.inL rfl (flat_ints _) ⟨_, rfl, fun z => ?_, fun z => ?_⟩
      · refine .list <| .cons <| .int <| .nil ⟨by show 1 ≤ sizeLine; decide, VO.catL (by simp at *; omega) ⟨(xs.filter fun x => decide (x ≠ 1)) ++ [1], k4, ⟨?_, ?_⟩, kn4.mono (by omega), by rw [List.map_append]; rfl, rfl⟩⟩
        · exact List.nodup_append.mpr ⟨fn, by simp, fun x hx y hy e => (fb x hx).2 (by rw [e]; simpa using hy)⟩
        · intro y hy
          rcases List.mem_append.mp hy with hy | hy
          · exact lo.bd y (fb y hy).1
          · rw [List.mem_singleton.mp hy]; omega
      · refine .list <| .nil ⟨by show 0 ≤ sizeLine; decide, VO.catL (by simp at *; omega) ⟨(xs.filter fun x => decide (x ≠ 1)), k4, ⟨fn, fun y hy => lo.bd y (fb y hy).1⟩, kn4.mono (by omega), by rw [List.append_nil]; rfl, rfl⟩⟩
    rintro ρ' M' ⟨xs, k', lo, kn', rfl, rfl⟩
    have xl := lo.len s4
    refine .one <| .expr <| .bm PySem.F.plainAttrs_list PySem.F.slot_list_append PySem.F.type_list_append <| .var 5 rfl ⟨.lstM (atq _), .cons <| .callTy c.n_tuple rfl <| .cons <| .callB c.n_sorted rfl <| .cons <| .var 6 rfl <| .nil <| VC.sorted <| .nil <| VC.tupleL <| .nil <| VM.append (atq _) (by rw [List.length_map]; omega) ?_⟩
    refine ⟨⟨_, _, rfl⟩, ls ++ [sortI xs], k', by simp [ll], ?_, by rw [List.length_append, List.length_range]; exact kn'.mono (by simp; omega), by rw [dk_mset qa ql, mset_mset, List.map_append]; rfl⟩
    intro y hy
    rcases List.mem_append.mp hy with hy | hy
    · exact lb y hy
    · rw [List.mem_singleton.mp hy]
      exact ⟨⟨(sortI_perm xs).nodup_iff.mpr lo.nd, fun x hx => lo.bd x (mem_sort.mp hx)⟩, rise_of (sort_lt lo.nd)⟩
  rintro ρ M' ⟨⟨x4, x6, rfl⟩, ls, k', ll, lb, kn', rfl⟩
  rw [List.length_range] at ll kn'
  refine ⟨[some (.ref a), some (.int sh), some (.int mn), some (.ref p), none, some (.ref q), none, none], by simp [Le], ?_⟩
  refine .one <| .ret <| .drop q <| .drop p <| .disp <| .cons <| .str <| .var 1 rfl <| .cons <| .str <| .callTy c.n_tuple rfl <| .cons <| .var 3 rfl <| .nil <| VC.tupleM (by rw [dk_else pa pl, mset_ne (Ne.symm qp), mset_same]) <| .cons <| .str <| .callTy c.n_tuple rfl <| .cons <| .var 5 rfl <| .nil <| VC.tupleM (by rw [dk_else qa ql, mset_same]) <| .nil ⟨wO ⟨sh, es, ls⟩, rfl, by show 3 ≤ 15; decide, ?_⟩
  rw [w_merge, dk_mdel pa pl, dk_mdel qa ql, mdel_mset_ne qp, mdel_mset hp, mdel_mset hq]
  refine h ⟨sh, es, ls⟩ k' ⟨⟨s1, by show sh ≤ 99; omega, ?_, by show es.length ≤ 100; omega, eb, ?_, by show ls.length ≤ 26; omega, fun y hy => ?_⟩, s4, by show es.length ≤ 9; omega, by show ls.length ≤ 4; omega⟩ (by show es.length ≤ 7; omega) (kn'.mono (by omega))
  · show es ≠ []
    intro e; rw [e] at el; simp at el; omega
  · show ls ≠ []
    intro e; rw [e] at ll; simp at ll; omega
  · obtain ⟨lo, hr⟩ := lb y hy
    exact ⟨Nat.le_trans (lo.len s4) (by omega), lo.bd, hr⟩
end
end K82
end
section
set_option maxRecDepth 100000
set_option maxHeartbeats 0
/-! K82N: the law's small defs. -/
namespace K82
open PySem PySem.Spec PyProof.Rows L2 TL
open He (ga ma fAd)
section
variable {w : World} {K : PySem.W.Frag} {mg : Str → Option Value} {base : Heap} {M : Mp} {Q : DQ}
theorem alpha_len : (lit "abcdefghijklmnopqrstuvwxyz").length = 26 := by decide +kernel
theorem t_law_deck (c : E82 w K mg base) {ns : List Int} (hl : ns.length ≤ 63) (h : ∀ a l k, l ≠ a → M a = none → M l = none → DkN k 0 → Q (.ref a) (dkM a l k M)) :
    TFn P82 w K mg base 1 (ga K "_law_deck") (fdOf K ("_law_deck", none)) ["_law_script"] [.lst (ns.map D.int)] M Q := by
  refine TFn.of c.f__law_deck s__law_deck rfl fun cdv A outer s H F hr => ?_
  have hs := sizeLine_eq
  refine .cons <| .par 1 2 rfl s__law_deck.nd <| .cons <| .callTy c.n_list rfl <| .cons <| .slice <| .var 0 rfl <| .none <| .some <| .int ⟨_, rfl, VS.lst <| .nil <| VC.listL ?_⟩
  rw [show TL.cutD (ns.map D.int) none (some 63) = ns.map D.int by rw [show (63 : Int) = ((63 : Nat) : Int) from rfl, cut_take, List.take_of_length_le (by rw [List.length_map]; exact hl)]]
  refine .cons <| .bin <| .int <| .bin <| .callB c.n_sum rfl <| .cons <| .slice <| .var 0 rfl <| .none <| .some <| .int ⟨_, rfl, VS.lst <| .nil ?_⟩
  rw [show TL.cutD (ns.map D.int) none (some 1) = (ns.take 1).map D.int by rw [show (1 : Int) = ((1 : Nat) : Int) from rfl, cut_take, List.map_take]]
  refine VC.sum rfl <| .int <| VO.modG (by decide) fun r r0 r1 => VO.add <| .nil ⟨_, _, rfl, ?_⟩
  refine .cons <| .for (L2.passes_of rfl) rfl ?_
  refine WI.list <| .var 1 rfl ⟨_, rfl, ?_⟩
  refine ForT.map D.int (fun pre ρ M' => (∃ (mx : Int) (x3 : Option D), ρ = [some (.lst (ns.map D.int)), some (.lst (ns.map D.int)), some (.int mx), x3]) ∧ M' = M) ?_ ?_ ⟨⟨_, none, rfl⟩, rfl⟩
  · rintro pre x post ρ M' e ⟨⟨mx, x3, rfl⟩, rfl⟩
    refine .nameN 3 s__law_deck.nd ?_
    exact .one <| .setN 2 s__law_deck.nd <| .bin <| .callTy c.n_int rfl <| .cons <| .bin <| .bin <| .bin <| .var 2 rfl <| .int <| VO.mulR (by decide) (by decide) <| .bin <| .callTy c.n_int rfl <| .cons <| .var 3 rfl <| .nil <| VC.int1 <| .int <| VO.modG (by decide) fun r1 _ _ => VO.add <| .int <| VO.add <| .nil <| VC.int1 <| .int <| VO.modG (by decide) fun r2 _ _ => ⟨⟨r2, _, rfl⟩, rfl⟩
  · rintro ρ M' ⟨⟨mx, x3, rfl⟩, rfl⟩
    refine ⟨_, Le.refl _, .one <| .ret <| .dispM <| .cons <| .str <| WE.revM <| .var 1 rfl ⟨_, rfl, fun l hl' => ?_⟩⟩
    refine .cons <| .str <| .var 2 rfl <| .cons <| .str <| .int <| .nil ⟨dkO l ⟨ns.reverse, mx, 0⟩, rfl, by show 3 ≤ 15; decide, fun a ha ha2 => ?_⟩
    have la : l ≠ a := fun e => by rw [e, mset_same] at ha2; cases ha2
    have := h a l ⟨ns.reverse, mx, 0⟩ la ha hl' ⟨by simpa using hl, Nat.le_refl _⟩
    rw [merge_nodup (kds := dkO l ⟨ns.reverse, mx, 0⟩) (show ([sk "cells", sk "mixed", sk "draws"] : List Key).Nodup by decide +kernel), ← List.map_reverse]
    exact this
end
end K82
end
section
set_option maxRecDepth 100000
set_option maxHeartbeats 0
/-! TDu: dict(pairs) and d.update(d2) where the keys are tuples. -/
namespace TL
open PySem PySem.Spec PyProof.Rows L2
def mergeX (acc more : List (D × D)) : List (D × D) := more.foldl (fun a p => match nkey p.1 with
  | some k => putX a k p.1 p.2
  | none => a) acc
theorem putX_len (acc : List (D × D)) (k : NestedKey) (x d : D) : (putX acc k x d).length ≤ acc.length + 1 := by
  unfold putX
  split <;> simp
theorem mergeX_len : ∀ (more acc : List (D × D)), (mergeX acc more).length ≤ acc.length + more.length
  | [], acc => by simp [mergeX]
  | p :: more, acc => by
    have e : mergeX acc (p :: more) = mergeX (match nkey p.1 with
      | some k => putX acc k p.1 p.2
      | none => acc) more := rfl
    have h2 := mergeX_len more (match nkey p.1 with
      | some k => putX acc k p.1 p.2
      | none => acc)
    rw [e, List.length_cons]
    refine Nat.le_trans h2 ?_
    have : (match nkey p.1 with
      | some k => putX acc k p.1 p.2
      | none => acc).length ≤ acc.length + 1 := by
      cases nkey p.1 with
      | none => simp
      | some k => exact putX_len acc k p.1 p.2
    omega
section
variable {K : PySem.W.Frag} {F : Hp}
theorem RepX.store {xs : KX} {ds : List (D × D)} {k : NestedKey} {a : Addr} {u : Value} {v : V} {kd d : D} (r : RepX K F xs ds) (e1 : nkey kd = some k) (e2 : k.depth ≤ 8) (r1 : Rep K F (.ref a) kd) (r2 : RelV v u) (r3 : Rep K F v d) : RepX K F (storedH xs k a u) (putX ds k kd d) := by
  unfold putX
  cases hd : lookX ds k with
  | none =>
    rw [storedH_new (r.lookN hd)]
    exact r.snoc e1 e2 r1 r2 r3
  | some d' =>
    obtain ⟨b, u', v', q1, q2, q3⟩ := r.look hd
    rw [storedH_old q1]
    exact r.putOld r2 r3
theorem RepX.storeAll : ∀ {ps : KX} {es : List (D × D)} {xs : KX} {ds : List (D × D)}, RepX K F ps es → RepX K F xs ds → RepX K F (storedAllH xs ps) (mergeX ds es)
  | _, _, xs, ds, .nil, r => r
  | _, _, xs, ds, .cons (k := k) (a := a) (u := u) (kd := kd) (d := d) (xs := ps) (ds := es) e1 e2 r1 r2 r3 rest, r => by
    show RepX K F (storedAllH (storedH xs k a u) ps) (mergeX (match nkey kd with
      | some k => putX ds k kd d
      | none => ds) es)
    rw [e1]
    exact RepX.storeAll rest (r.store e1 e2 r1 r2 r3)
end
section
variable {X : Cx} {M : Mp} {Q : DQ}
/-- a pair whose first one is a key that is a tuple -/
structure KeyT (p : D × D) : Prop where
  tup : ∃ ys, p.1 = .tup ys
  key : ∃ k : NestedKey, nkey p.1 = some k ∧ k.depth ≤ 8
theorem items_x {pins : Pins} {σ : SS} {H F : Hp} {s : Shared} (I : Inv X pins σ H s) (g : Sub F H) : ∀ {L : List (D × D)} {ws : List V} {its : List Value}, (∀ p ∈ L, KeyT p) → Reps X.K F ws (L.map fun p => .tup [p.1, p.2]) → Vals ws its →
    ∃ (ts : List Addr) (ps : KX), its = ts.map Value.ref ∧ ts.length = ps.length ∧ RepX X.K F ps L ∧ ∀ (j : Nat) t x, ts[j]? = some t → ps[j]? = some x → IsTup s.heap t #[.ref x.2.1, x.2.2]
  | [], _, _, _, r, v => by cases r; cases v; exact ⟨[], [], rfl, rfl, .nil, fun j t x e => by simp at e⟩
  | p :: L, _, _, hk, r, v => by
    cases r with
    | cons a r =>
      cases v with
      | cons av v =>
        obtain ⟨ts, ps, rfl, hl, rx, hp⟩ := items_x I g (fun q hq => hk q (List.mem_cons_of_mem p hq)) r v
        obtain ⟨⟨ys, ey⟩, k, ek, h8⟩ := hk p (List.mem_cons_self ..)
        cases a with
        | @tup t vs _ st hr =>
          cases av
          obtain ⟨us, rv, pt, _⟩ := I.tuple (g.sqT st)
          cases hr with
          | @cons v1 _ _ _ a1 hr =>
            cases hr with
            | @cons v2 _ _ _ a2 hr =>
              cases hr
              obtain ⟨u1, u2, rfl, q1, q2⟩ := vals2 rv
              have a1' := a1
              rw [ey] at a1'
              cases a1' with
              | @tup b _ _ _ _ =>
                cases q1
                refine ⟨t :: ts, (k, b, u2) :: ps, rfl, by simp [hl], .cons ek h8 a1 q2 a2 rx, fun j t' x e1 e2 => ?_⟩
                cases j with
                | zero =>
                  cases e1
                  cases e2
                  exact pt
                | succ j => exact hp j t' x (by simpa using e1) (by simpa using e2)
theorem VC.dictX {j : Nat} (hr : GRoom j X.A) (hc : X.calm = true) {L : List (D × D)} (hL : ∀ p ∈ L, KeyT p) (h : ∀ p, M p = none → Q (.ref p) (mset M p (.kd X.w (mergeX [] L)))) : VC X (.type "dict") [.lst (L.map fun p => .tup [p.1, p.2])] M Q := by
  intro pins s σ H F vs us I R r1 p1
  cases p1 with
  | cons q p =>
    cases p
    cases r1 with
    | cons a1 r2 =>
      cases r2
      cases q with
      | @lst a ws _ sq rq =>
        cases a1
        obtain ⟨its, rv, pl, hz⟩ := I.list (.inl (R.sub.rd sq))
        obtain ⟨ts, ps, rfl, hl, rx, hp⟩ := items_x I R.sub hL rq rv
        have hn : ws.length = ps.length := by rw [rv.length, List.length_map, hl]
        have room : (nestedKind X.prog X.w).room X.A.in1.in1 := by
          have z := hr.room.units
          show X.A.units + 1 + 1 + 8 < cLine
          omega
        have isx := repX_is I R.sub rx
        refine call_dict_pairsH (knd := nestedKind X.prog X.w) (ps := ps) (PairArg.list a (ts.map Value.ref).toArray (fun j => ts.getD j 0) (ps.map fun x => (Value.ref x.2.1, x.2.2))) (I.ok.hd hc) room ⟨pl, ?_, ?_⟩ ⟨by simp, fun i key v e => ?_⟩ (fun h' hk x hx => ?_) (by rw [List.length_map]; omega) fun h' tk hd' hk => ?_
        · simp [hl]
        · intro i key v e
          rw [List.getElem?_map] at e
          cases hx : ps[i]? with
          | none => rw [hx] at e; cases e
          | some x =>
            rw [hx] at e
            cases e
            have hi : i < ps.length := (List.getElem?_eq_some_iff.mp hx).1
            have ht : ts[i]? = some (ts[i]'(by omega)) := List.getElem?_eq_getElem _
            refine ⟨by simp [ht], .inl ?_⟩
            show IsTup s.heap (ts.getD i 0) _
            rw [List.getD_eq_getElem?_getD, ht]
            exact hp i _ x ht hx
        · have e : (ps.map fun x => (Value.ref x.2.1, x.2.2))[i]? = some (key, v) := e
          rw [List.getElem?_map] at e
          cases hx : ps[i]? with
          | none => rw [hx] at e; cases e
          | some x =>
            rw [hx] at e
            cases e
            exact ⟨x.1, x.2.1, rfl, rfl⟩
        · exact nestedKind_stays.stays (fun b o _ _ e _ => hk b o (Nat.ne_of_lt (Heap.lt_size e)) (fun q => nomatch q) e) (isx x hx)
        · have hb : (s.heap.objs.size == sysModules) = false := beq_eq_false_iff_ne.mpr (Nat.ne_of_gt I.big)
          have hf := I.fresh
          have rX := RepX.storeAll rx (RepX.nil (K := X.K) (F := F))
          have hlen : (storedAllH [] ps).length ≤ sizeLine := by
            rw [rX.len]
            have := mergeX_len L []
            have := rx.len
            simp only [List.length_nil] at *
            omega
          obtain ⟨o, es, ep, h1, h2, h3, h4, _, h5⟩ := hd'
          refine ⟨.ref s.heap.objs.size, _, F, _, _, I.laid (a := s.heap.objs.size) (o := KDO X.w s.heap.objs.size (storedAllH [] ps)) (t' := tk) (fun b o e => hk b o (fun q => nomatch q) e) (Nat.le_refl _) (kdo_ok h1 h2 h3 h4 h5 hlen hb), rfl, Stp.newM R hf (.kd rX), .ref _, h _ (R.free hf)⟩
/-- d.update(d2) -/
theorem VM.updateX {j : Nat} (hr : GRoom j X.A) {a b : Addr} {ds es : List (D × D)} (hm : M a = some (.kd X.w ds)) (hb : M b = some (.kd X.w es)) (hne : a ≠ b) (hap : ds ≠ [] ∨ (es.map fun p => ((nkey p.1).getD .none).hash X.w).Nodup) (hl : ds.length + es.length ≤ sizeLine) (h : Q .non (mset M a (.kd X.w (mergeX ds es)))) : VM X "dict.update" (.ref a) [.ref b] M Q := by
  intro pins s σ H F v u vs us I R r1 p1 r2 p2
  obtain ⟨xs, hx, rX, dd, hl', hsm⟩ := kd_dict I R hm
  obtain ⟨ys, hy, rY, dd2, hl2, hsm2⟩ := kd_dict I R hb
  cases p1
  cases r1
  cases p2 with
  | cons q1 p2 =>
    cases p2
    cases r2 with
    | cons a1 r2 =>
      cases r2
      cases q1
      cases a1
      have hsz : xs.length + ys.length ≤ sizeLine := by rw [rX.len, rY.len]; exact hl
      refine call_update_dictH (knd := nestedKind X.prog X.w) (room8 hr) hne hsm2 dd dd2 ?_ hsz fun h' hd' ho' hs => ?_
      · rcases hap with q | q
        · exact .inl fun e => q (by subst e; cases rX; rfl)
        · refine .inr ⟨keyed_apart nestedKind_stays dd2, ?_⟩
          have e : ∀ {zs : KX} {cs : List (D × D)}, RepX X.K F zs cs → (zs.map fun x => (nestedKind X.prog X.w).hash x.1) = cs.map fun p => ((nkey p.1).getD .none).hash X.w := by
            intro zs cs r
            induction zs generalizing cs with
            | nil => cases r; rfl
            | cons z zs ih =>
              cases r with
              | cons e1 _ _ _ _ r =>
                rw [List.map_cons, List.map_cons, ih r, e1]
                rfl
          rw [e rY]
          exact q
      · obtain ⟨J, t⟩ := kd_write (t' := s.toks) I R hm hs hd' (by
          have rZ := RepX.storeAll rY rX
          rw [rZ.len]
          have := mergeX_len es ds
          omega) (RepX.storeAll rY rX)
        exact ⟨.non, _, F, _, _, J, rfl, t, .non, h⟩
end
end TL
end
section
set_option maxRecDepth 100000
set_option maxHeartbeats 0
/-! TVn: lists of anything compared with []. -/
namespace TL
open PySem PySem.Spec PyProof.Rows L2
section
variable {X : Cx} {M : Mp} {Q : DQ}
theorem op_neL0 (hu : X.A.units < cLine) : OpR X (compareOp .NotEq) (fun x y H Q => ∃ a b xs, x = .ref a ∧ y = .ref b ∧ SqL X.K H a xs ∧ SqL X.K H b [] ∧ Q (.bl (!decide (xs = []))) H) := by
  intro pins s σ H x y v u Q I rx ry h
  obtain ⟨a, b, xs, rfl, rfl, h1, h2, q⟩ := h
  cases rx
  cases ry
  obtain ⟨its, r, ⟨o1, n1, p1, p2, p3, p4⟩, _⟩ := I.list h1
  obtain ⟨its2, r2, ⟨o2, n2, q1, q2, q3, q4⟩, _⟩ := I.list h2
  cases r2
  have l1 : s.heap.IsList a its.toArray := ⟨o1, p1, p2, n1, p4⟩
  have l2 : s.heap.IsList b ([] : List Value).toArray := ⟨o2, q1, q2, n2, q4⟩
  cases r with
  | nil => exact SeqAt.RcNeAt.lists (e := fun _ => true) l1 l2 rfl hu (fun j _ z => absurd z (Nat.not_lt_zero j)) _ _ _ _ ⟨.bl false, H, I, rfl, q⟩
  | cons a r => exact SeqAt.RcNeAt.lists_lengths l1 l2 (by simp) hu _ _ _ _ ⟨.bl true, H, I, rfl, q⟩
theorem VO.neL0 {xs : List D} (hu : X.A.units < cLine) (h : Q (.bl (!decide (xs = []))) M) : VO X (compareOp .NotEq) (.lst xs) (.lst []) M Q :=
  .op (op_neL0 hu) fun H F v1 v2 R r1 r2 => by
    cases r1 with
    | @lst a ws _ s r =>
      cases r2 with
      | @lst b us _ s2 r2 =>
        cases r2
        have e : (ws = []) ↔ (xs = []) := by cases r <;> simp
        refine ⟨a, b, ws, rfl, rfl, .inl (R.sub.rd s), .inl (R.sub.rd s2), F, M, _, Stp.refl R, .bl _, ?_⟩
        simp only [e]
        exact h
theorem op_eqL0 (hu : X.A.units < cLine) : OpR X (compareOp .Eq) (fun x y H Q => ∃ a b xs, x = .ref a ∧ y = .ref b ∧ SqL X.K H a xs ∧ SqL X.K H b [] ∧ Q (.bl (decide (xs = []))) H) := by
  intro pins s σ H x y v u Q I rx ry h
  obtain ⟨a, b, xs, rfl, rfl, h1, h2, q⟩ := h
  cases rx
  cases ry
  obtain ⟨its, r, ⟨o1, n1, p1, p2, p3, p4⟩, _⟩ := I.list h1
  obtain ⟨its2, r2, ⟨o2, n2, q1, q2, q3, q4⟩, _⟩ := I.list h2
  cases r2
  have l1 : s.heap.IsList a its.toArray := ⟨o1, p1, p2, n1, p4⟩
  have l2 : s.heap.IsList b ([] : List Value).toArray := ⟨o2, q1, q2, n2, q4⟩
  cases r with
  | nil => exact SeqAt.RcAt.lists (e := fun _ => true) l1 l2 rfl hu (fun j _ z => absurd z (Nat.not_lt_zero j)) _ _ _ _ ⟨.bl true, H, I, rfl, q⟩
  | cons a r => exact SeqAt.RcAt.lists_lengths l1 l2 (by simp) hu _ _ _ _ ⟨.bl false, H, I, rfl, q⟩
theorem VO.eqL0 {xs : List D} (hu : X.A.units < cLine) (h : Q (.bl (decide (xs = []))) M) : VO X (compareOp .Eq) (.lst xs) (.lst []) M Q :=
  .op (op_eqL0 hu) fun H F v1 v2 R r1 r2 => by
    cases r1 with
    | @lst a ws _ s r =>
      cases r2 with
      | @lst b us _ s2 r2 =>
        cases r2
        have e : (ws = []) ↔ (xs = []) := by cases r <;> simp
        refine ⟨a, b, ws, rfl, rfl, .inl (R.sub.rd s), .inl (R.sub.rd s2), F, M, _, Stp.refl R, .bl _, ?_⟩
        simp only [e]
        exact h
end
theorem uniq_self {α : Type} [DecidableEq α] : ∀ {l acc : List α}, (acc ++ l).Nodup → uniq acc l = acc ++ l
  | [], acc, _ => by simp [uniq]
  | x :: l, acc, h => by
    have hx : x ∉ acc := fun hx => by
      rw [List.nodup_append] at h
      exact h.2.2 x hx x (List.mem_cons_self ..) rfl
    unfold uniq
    rw [if_neg hx, uniq_self (by rwa [List.append_assoc]), List.append_assoc]; rfl
theorem sortI_self {l : List Int} (h : l.Pairwise (· ≤ ·)) : sortI l = l := sorted_one (sortI_perm l) (sortI_le l) h
/-- a filter that leaves nothing -/
theorem filter_none {α : Type} (q : α → Bool) (l : List α) : decide (l.filter (fun x => !q x) = []) = l.all q := by
  rw [Bool.eq_iff_iff, decide_eq_true_eq, List.filter_eq_nil_iff, List.all_eq_true]
  exact ⟨fun h x hx => by simpa using h x hx, fun h x hx => by simpa using h x hx⟩
end TL
end
section
set_option maxRecDepth 100000
set_option maxHeartbeats 0
/-! K82S: the law's own looks. -/
namespace K82
open PySem PySem.Spec PyProof.Rows L2 TL
open He (ga ma fAd)
theorem less_sort (ns : List Int) : lessB ns = decide (ns = sortI (uniq [] ns)) := by
  rw [Bool.eq_iff_iff, less_pair, decide_eq_true_eq]
  constructor
  · intro h
    have nd : ns.Nodup := h.imp fun q => by omega
    rw [uniq_self (by simpa using nd), List.nil_append, sortI_self (h.imp fun q => by omega)]
  · intro h
    rw [h]
    exact sort_lt (nodup_uniq List.nodup_nil)
def optI : Option Int → D
  | none => .non
  | some i => .int i
section
variable {w : World} {K : PySem.W.Frag} {mg : Str → Option Value} {base : Heap} {M : Mp} {Q : DQ}
theorem t_law_is_whole (c : E82 w K mg base) {n b : Nat} {d : D} (hv : vl n d = true) (h : Q (.bl (wholeB b d)) M) : TFn P82 w K mg base 1 (ga K "_law_is_whole") (fdOf K ("_law_is_whole", none)) ["_law_it", "_law_below"] [d, .int (b : Int)] M Q := by
  refine TFn.of c.f__law_is_whole s__law_is_whole rfl fun cdv A outer s H F hr => ?_
  obtain ⟨t2, k2⟩ := vl_ty hv
  refine .one <| .ret <| .and <| .callB c.n_isinstance rfl <| .cons <| .var 0 rfl <| .cons <| .ty c.n_int rfl <| .nil <| VC.isi k2.ty k2.int ⟨_, rfl, ?_⟩
  cases d with
  | int i =>
    refine ⟨fun z => (nomatch z), fun _ => .and <| .not <| .callB c.n_isinstance rfl <| .cons <| .var 0 rfl <| .cons <| .ty c.n_bool rfl <| .nil <| VC.isi k2.ty k2.bool ⟨_, rfl, _, rfl, fun z => (nomatch z), fun _ => ?_⟩⟩
    have h : Q (.bl (decide (0 ≤ i) && decide (i < (b : Int)))) M := h
    refine .one <| .chain <| .int <| .var 0 rfl <| .le ⟨_, rfl, fun z => ?_, fun z => .var 1 rfl <| .lt ?_⟩
    · rw [z] at h; exact h
    · rw [z] at h; exact h
  | bl b => exact ⟨fun z => (nomatch z), fun _ => .and <| .not <| .callB c.n_isinstance rfl <| .cons <| .var 0 rfl <| .cons <| .ty c.n_bool rfl <| .nil <| VC.isi k2.ty k2.bool ⟨_, rfl, _, rfl, fun _ => h, fun z => nomatch z⟩⟩
  | _ => exact ⟨fun _ => h, fun z => nomatch z⟩
theorem t_law_is_press (c : E82 w K mg base) {v : LW} (l1 : v.lifts.length ≤ 26) {d : D} {n : Nat} (hv : vl n d = true) (hn : n ≤ 1000) (h : Q (.bl (pressB v.lifts.length d)) M) : TFn P82 w K mg base 1 (ga K "_law_is_press") (fdOf K ("_law_is_press", none)) ["_law_w", "_law_it"] [wD v, d] M Q := by
  refine TFn.of c.f__law_is_press s__law_is_press rfl fun cdv A outer s H F hr => ?_
  have hs := sizeLine_eq
  have hu := hr.room.units
  have hu0 : (A.deeper (envOfC "_law_is_press" q__law_is_press s.heap.objs.size (ga K "_law_is_press") cdv)).units < cLine := Nat.lt_of_le_of_lt (Nat.le_add_right _ 64) hu
  have hu1 : (A.deeper (envOfC "_law_is_press" q__law_is_press s.heap.objs.size (ga K "_law_is_press") cdv)).units + 1 < cLine := Nat.lt_of_le_of_lt (Nat.add_le_add_left (by omega) _) hu
  obtain ⟨ty, kd⟩ := vl_ty hv
  refine .cons <| .ite <| .ww <| .or <| .not <| .val <| .callB c.n_isinstance rfl <| .cons <| .var 1 rfl <| .cons <| .ty c.n_str rfl <| .nil <| VC.isi kd.ty kd.str ⟨_, rfl, ?_⟩
  cases hd : isStr d with
  | false =>
    refine ⟨fun _ => ⟨fun _ => .one <| .ret <| .bl ?_, fun z => nomatch z⟩, fun z => nomatch z⟩
    rw [press_no hd] at h
    exact h
  | true =>
    cases d with
    | str t =>
      obtain ⟨tl, tc⟩ := vl_str hv
      refine ⟨fun z => (nomatch z), fun _ => .or1 <| .cmp <| .var 1 rfl <| .bm PySem.F.plainAttrs_str PySem.F.slot_str_join PySem.F.type_str_join <| .str ⟨.str, .cons ?_⟩⟩
      refine WE.sortedSetS rfl c.n_sorted c.n_set <| .var 1 rfl ⟨t, rfl, by show _ < 4096; omega, ?_⟩
      have sl : (sortN (uniq [] t)).length ≤ 1000 := by
        have h1 := (sortN_perm (uniq [] t)).length_eq
        have h2 := uniq_len t []
        simp at h1 h2
        omega
      have ej : (sortN (uniq [] t)).map (fun c => D.str [c]) = ((sortN (uniq [] t)).map fun c => [c]).map D.str := by rw [List.map_map]; rfl
      rw [ej]
      refine .nil <| VM.joinL ?_ <| VO.neS ⟨_, rfl, ?_⟩
      · rw [List.map_map]
        have : ∀ l : List Nat, (l.map (List.length ∘ fun c => [c])).sum = l.length := by
          intro l
          induction l with
          | nil => rfl
          | cons a l ih => rw [List.map_cons, List.sum_cons, ih]; simp; omega
        rw [this]; omega
      have ef : ∀ l : List Nat, (l.map fun c => [c]).flatten = l := by
        intro l
        induction l with
        | nil => rfl
        | cons a l ih => rw [List.map_cons, List.flatten_cons, ih]; rfl
      rw [ef]
      have h : Q (.bl (pressT v.lifts.length t)) M := h
      unfold pressT at h
      cases ha : decide (t = sortN (uniq [] t)) with
      | false =>
        rw [ha, Bool.and_false] at h
        exact ⟨fun _ => .one <| .ret <| .bl h, fun z => nomatch z⟩
      | true =>
        rw [ha, Bool.and_true] at h
        refine ⟨fun z => (nomatch z), fun _ => .done ?_⟩
        refine .one <| .ret <| .cmp ?_
        refine WE.lc1 2 [("_law_sign", 2)] rfl s__law_is_press.nd (show BlkOk n__law_is_press q__law_is_press _ _ from ⟨rfl, by decide +kernel, by decide +kernel, by decide +kernel, by decide +kernel⟩) ?_
        refine WI.str <| .var 1 rfl ⟨_, rfl, ?_⟩
        refine CompT.filter (fun d => match d with | .str [x] => !decide (x ∈ alpha.take v.lifts.length) | _ => false) (fun d => d) (fun x hx => ?_) (by simp; omega) ?_
        · obtain ⟨i, hi, rfl⟩ := List.mem_map.mp hx
          refine ⟨_, rfl, fun s H C cl fp => .cmp <| .var 2 rfl <| .slice <| .str <| .none <| .some <| .callB c.n_len rfl <| .cons <| .ix <| .var 0 rfl <| .str <| VI.get hu1 (sk_str _) w_look3 <| .nil <| VC.len (n := v.lifts.length) (by simp [lenD]) ⟨_, rfl, VS.str (by rw [alpha_len]; omega) ?_⟩, fun _ s H C cl fp => .var 2 rfl ⟨rfl, rfl⟩⟩
          rw [cut_take]
          exact .notInSign ⟨_, rfl, rfl, rfl⟩
        · refine .list <| .nil ⟨by show 0 ≤ sizeLine; decide, VO.eqL0 hu0 ?_⟩
          rw [List.nil_append, List.map_id', List.filter_map]
          have e : decide ((t.filter ((fun d => match d with | .str [x] => !decide (x ∈ alpha.take v.lifts.length) | _ => false) ∘ fun c => D.str [c])).map (fun c => D.str [c]) = []) = t.all fun c => decide (c ∈ alpha.take v.lifts.length) := by
            rw [← filter_none]
            simp only [List.map_eq_nil_iff]
            rfl
          rw [e]
          exact h
    | _ => simp [isStr] at hd
theorem ixs_find {α : Type} (q : α → Bool) (xs : List α) : (ixs q xs)[0]? = xs.findIdx? q := by
  cases hf : xs.findIdx? q with
  | none =>
    rw [List.findIdx?_eq_none_iff] at hf
    have : ixs q xs = [] := by
      cases h : ixs q xs with
      | nil => rfl
      | cons i l =>
        obtain ⟨x, hx, hq⟩ := mem_ixs.mp (show i ∈ ixs q xs by rw [h]; exact List.mem_cons_self ..)
        rw [hf x (List.mem_of_getElem? hx)] at hq
        cases hq
    rw [this]; rfl
  | some i =>
    rw [List.findIdx?_eq_some_iff_getElem] at hf
    obtain ⟨hi, hq, hlt⟩ := hf
    have mi : i ∈ ixs q xs := mem_ixs.mpr ⟨_, List.getElem?_eq_getElem hi, hq⟩
    cases h : ixs q xs with
    | nil => rw [h] at mi; cases mi
    | cons j l =>
      have up := ixs_lt (q := q) (xs := xs)
      rw [h] at up mi
      obtain ⟨x, hx, hqx⟩ := mem_ixs.mp (show j ∈ ixs q xs by rw [h]; exact List.mem_cons_self ..)
      rcases List.mem_cons.mp mi with rfl | mi
      · rfl
      · have lt := (List.pairwise_cons.mp up).1 i mi
        have := hlt j lt
        rw [(List.getElem?_eq_some_iff.mp hx).2, hqx] at this
        exact absurd rfl this
theorem t_law_fault (c : E82 w K mg base) {v : LW} (l1 : v.lifts.length ≤ 26) {d : D} {n : Nat} (hv : vl n d = true) (hn : n ≤ 1000) (h : Q (optI (faultP v.lifts.length d)) M) : TFn P82 w K mg base 2 (ga K "_law_fault") (fdOf K ("_law_fault", none)) ["_law_w", "_law_it"] [wD v, d] M Q := by
  refine TFn.of c.f__law_fault s__law_fault rfl fun cdv A outer s H F hr => ?_
  have hs := sizeLine_eq
  have hu0 : (A.deeper (envOfC "_law_fault" q__law_fault s.heap.objs.size (ga K "_law_fault") cdv)).units < cLine := Nat.lt_of_le_of_lt (Nat.le_add_right _ 64) hr.room.units
  obtain ⟨ty, kd⟩ := vl_ty hv
  refine .cons <| .ite <| .ww <| .or <| .not <| .val <| .callB c.n_isinstance rfl <| .cons <| .var 1 rfl <| .cons <| .ty c.n_tuple rfl <| .nil <| VC.isi kd.ty kd.tup ⟨_, rfl, ?_⟩
  cases d with
  | tup xs =>
    obtain ⟨xl, xv⟩ := vl_tup hv
    refine ⟨fun z => (nomatch z), fun _ => .or1 <| .cmp <| .var 1 rfl <| .tuple <| .nil ⟨by decide, VO.eqT0 hu0 ⟨_, rfl, ?_⟩⟩⟩
    cases xs with
    | nil => exact ⟨fun _ => .one <| .ret <| .neg <| .int ⟨_, rfl, h⟩, fun z => nomatch z⟩
    | cons x0 xs0 =>
      have h : Q (optI (((x0 :: xs0).findIdx? fun d => !pressB v.lifts.length d).map fun (i : Nat) => (i : Int))) M := h
      refine ⟨fun z => (nomatch z), fun _ => .done ?_⟩
      generalize x0 :: xs0 = xs at *
      refine .cons <| WS.setLc2 2 3 4 [("_law_k", 3), ("_law_press", 4)] rfl s__law_fault.nd (show BlkOk n__law_fault q__law_fault _ _ from ⟨rfl, by decide +kernel, by decide +kernel, by decide +kernel, by decide +kernel⟩) ?_
      refine WI.enum c.n_enumerate <| .var 1 rfl ⟨xs.map fun d => d, by rw [List.map_id']; rfl, ?_⟩
      refine CompT.ixs (f := fun d => d) (fun d => !pressB v.lifts.length d) (fun i x hx => ⟨_, rfl, fun s H C cl fp => .not <| .val <| .call (hr.mono (j := 1) (by omega)) c.g__law_is_press c.f__law_is_press.kp c.b__law_is_press <| .cons <| .var 0 rfl <| .cons <| .var 4 rfl <| .nil <| t_law_is_press c l1 (xv x (List.mem_of_getElem? hx)) hn ⟨_, rfl, rfl, rfl⟩, fun s H C cl fp => .var 3 rfl ⟨rfl, rfl⟩⟩) (by omega) ?_
      refine .one <| .ret <| .ife <| .cmp <| .var 2 rfl <| .list <| .nil ⟨by show 0 ≤ sizeLine; decide, VO.neL0 hu0 ⟨_, rfl, ?_⟩⟩
      rw [← ixs_find] at h
      cases hx : ixs (fun d => !pressB v.lifts.length d) xs with
      | nil =>
        rw [hx] at h
        exact ⟨fun z => (nomatch z), fun _ => .non h⟩
      | cons i l =>
        rw [hx] at h
        exact ⟨fun _ => .ix <| .var 2 rfl <| .int <| VI.lst (d := .int (i : Int)) (TL.atI_nat (i := 0)) h, fun z => nomatch z⟩
  | _ => exact ⟨fun _ => ⟨fun _ => .one <| .ret <| .neg <| .int ⟨_, rfl, h⟩, fun z => nomatch z⟩, fun z => nomatch z⟩
end
end K82
end
section
set_option maxRecDepth 100000
set_option maxHeartbeats 0
/-! K82T: the law's parts and bars. -/
namespace K82
open PySem PySem.Spec PyProof.Rows L2 TL
open He (ga ma fAd)
section
variable {w : World} {K : PySem.W.Frag} {mg : Str → Option Value} {base : Heap} {M : Mp} {Q : DQ}
theorem t_law_is_part (c : E82 w K mg base) {b n : Nat} {d : D} (hv : vl n d = true) (hn : n ≤ 1000) (h : Q (.bl (partB b d)) M) : TFn P82 w K mg base 2 (ga K "_law_is_part") (fdOf K ("_law_is_part", none)) ["_law_it", "_law_below"] [d, .int (b : Int)] M Q := by
  refine TFn.of c.f__law_is_part s__law_is_part rfl fun cdv A outer s H F hr => ?_
  have hs := sizeLine_eq
  have hu := hr.room.units
  have hu0 : (A.deeper (envOfC "_law_is_part" q__law_is_part s.heap.objs.size (ga K "_law_is_part") cdv)).units < cLine := Nat.lt_of_le_of_lt (Nat.le_add_right _ 64) hr.room.units
  obtain ⟨ty, kd⟩ := vl_ty hv
  refine .cons <| .ite <| .ww <| .or <| .not <| .val <| .callB c.n_isinstance rfl <| .cons <| .var 0 rfl <| .cons <| .ty c.n_tuple rfl <| .nil <| VC.isi kd.ty kd.tup ⟨_, rfl, ?_⟩
  cases d with
  | tup xs =>
    obtain ⟨xl, xv⟩ := vl_tup hv
    refine ⟨fun z => (nomatch z), fun _ => .or <| .cmp <| .var 0 rfl <| .tuple <| .nil ⟨by decide, VO.eqT0 hu0 ⟨_, rfl, ?_⟩⟩⟩
    cases xs with
    | nil => exact ⟨fun _ => ⟨fun _ => .one <| .ret <| .bl h, fun z => nomatch z⟩, fun z => nomatch z⟩
    | cons x0 xs0 =>
      have h : Q (.bl ((x0 :: xs0).all (wholeB b) && lessB ((x0 :: xs0).map intOf))) M := h
      refine ⟨fun z => (nomatch z), fun _ => .or1 <| .cmp ?_⟩
      generalize x0 :: xs0 = ys at *
      refine WE.lc1 2 [("_law_n", 2)] rfl s__law_is_part.nd (show BlkOk n__law_is_part q__law_is_part _ _ from ⟨rfl, by decide +kernel, by decide +kernel, by decide +kernel, by decide +kernel⟩) ?_
      refine WI.tup <| .var 0 rfl ⟨_, rfl, ?_⟩
      refine CompT.filter (fun d => !wholeB b d) (fun d => d) (fun y hy => ?_) (by rw [List.length_nil]; omega) ?_
      · exact ⟨_, rfl, fun s H C cl fp => .not <| .val <| .call (hr.mono (j := 1) (by omega)) c.g__law_is_whole c.f__law_is_whole.kp c.b__law_is_whole <| .cons <| .var 2 rfl <| .cons <| .var 1 rfl <| .nil <| t_law_is_whole c (xv y hy) ⟨_, rfl, rfl, rfl⟩, fun _ s H C cl fp => .var 2 rfl ⟨rfl, rfl⟩⟩
      refine .list <| .nil ⟨by show 0 ≤ sizeLine; decide, VO.neL0 hu0 ⟨_, rfl, ?_⟩⟩
      rw [List.nil_append, List.map_id', filter_none]
      cases ha : ys.all (wholeB b) with
      | false =>
        rw [ha] at h
        exact ⟨fun _ => .one <| .ret <| .bl h, fun z => nomatch z⟩
      | true =>
        rw [ha, Bool.true_and] at h
        rw [List.all_eq_true] at ha
        refine ⟨fun z => (nomatch z), fun _ => .done ?_⟩
        have ei : ys = (ys.map intOf).map D.int := by
          rw [List.map_map]
          refine ((List.map_congr_left fun y hy => ?_).trans (List.map_id ys)).symm
          have hw := ha y hy
          cases y <;> first | rfl | (simp [wholeB] at hw)
        rw [ei]
        rw [ei] at xl
        generalize ys.map intOf = ns at *
        rw [List.length_map] at xl
        refine .one <| .ret <| .cmp <| .callTy c.n_list rfl <| .cons <| .var 0 rfl <| .nil <| VC.listT ?_
        refine WE.sortedSetI rfl c.n_sorted c.n_set <| .var 0 rfl ⟨ns, .tupI _, by show _ < 4096; omega, ?_⟩
        refine VO.eqD hu (shp_lints _) (shp_lints _) ?_
        rw [eqD_lints, ← less_sort]
        exact h
  | _ => exact ⟨fun _ => ⟨fun _ => .one <| .ret <| .bl h, fun z => nomatch z⟩, fun z => nomatch z⟩
theorem t_law_is_bar (c : E82 w K mg base) {rows : List (List Nat)} {m n : Nat} (ok : CW rows m) {d : D} (hv : vl n d = true) (hn : n ≤ 1000) (h : Q (.bl (barB rows m d)) M) : TFn P82 w K mg base 3 (ga K "_law_is_bar") (fdOf K ("_law_is_bar", none)) ["_law_cloth_now", "_law_it"] [.tup (rows.map D.str), d] M Q := by
  refine TFn.of c.f__law_is_bar s__law_is_bar rfl fun cdv A outer s H F hr => ?_
  have hs := sizeLine_eq
  have hu0 : (A.deeper (envOfC "_law_is_bar" q__law_is_bar s.heap.objs.size (ga K "_law_is_bar") cdv)).units < cLine := Nat.lt_of_le_of_lt (Nat.le_add_right _ 64) hr.room.units
  obtain ⟨ty, kd⟩ := vl_ty hv
  have m1 := ok.n1
  have r1 := ok.r1
  refine .cons <| .ite <| .ww <| .or <| .not <| .val <| .callB c.n_isinstance rfl <| .cons <| .var 1 rfl <| .cons <| .ty c.n_tuple rfl <| .nil <| VC.isi kd.ty kd.tup ⟨_, rfl, ?_⟩
  cases d with
  | tup xs =>
    obtain ⟨xl, xv⟩ := vl_tup hv
    refine ⟨fun z => (nomatch z), fun _ => .or1 <| .cmp <| .callB c.n_len rfl <| .cons <| .var 1 rfl <| .nil <| VC.len (n := xs.length) (by simp [lenD]) <| .int <| VO.neI ⟨_, rfl, ?_⟩⟩
    by_cases h2 : xs.length = 2
    · have e2 : (!decide ((xs.length : Int) = 2)) = false := by rw [h2]; rfl
      rw [e2]
      match xs, h2 with
      | [p, e], _ =>
        have vp' := xv p (by simp)
        have ve' := xv e (by simp)
        have hq : Q (.bl (partB rows.length p && partB m e && (natsOf p).all fun i => (natsOf e).all fun j => upAt rows i j)) M := h
        clear h
        refine ⟨fun z => (nomatch z), fun _ => .done ?_⟩
        refine .cons <| .ite <| .ww <| .or <| .not <| .val <| .call (hr.mono (j := 2) (by omega)) c.g__law_is_part c.f__law_is_part.kp c.b__law_is_part <| .cons <| .ix <| .var 1 rfl <| .int <| VI.tup (d := p) (TL.atI_nat (i := 0)) <| .cons <| .callB c.n_len rfl <| .cons <| .var 0 rfl <| .nil <| VC.len (n := rows.length) (by simp [lenD]) <| .nil <| t_law_is_part c vp' hn ⟨_, rfl, ?_⟩
        cases hp : partB rows.length p with
        | false =>
          rw [hp] at hq
          exact ⟨fun _ => ⟨fun _ => .one <| .ret <| .bl hq, fun z => nomatch z⟩, fun z => nomatch z⟩
        | true =>
          rw [hp, Bool.true_and] at hq
          obtain ⟨r0, hr0⟩ : ∃ r0, rows[0]? = some r0 := ⟨_, List.getElem?_eq_getElem (List.length_pos_iff.mpr ok.r0)⟩
          have lr0 : r0.length = m := (ok.r2 r0 (List.mem_of_getElem? hr0)).1
          refine ⟨fun z => (nomatch z), fun _ => .or1 <| .not <| .val <| .call (hr.mono (j := 2) (by omega)) c.g__law_is_part c.f__law_is_part.kp c.b__law_is_part <| .cons <| .ix <| .var 1 rfl <| .int <| VI.tup (d := e) (TL.atI_nat (i := 1)) <| .cons <| .callB c.n_len rfl <| .cons <| .ix <| .var 0 rfl <| .int <| VI.tup (d := .str r0) ((TL.atI_nat (i := 0)).trans (by rw [List.getElem?_map, hr0]; rfl)) <| .nil <| VC.len (n := m) (by simp [lenD, lr0]; omega) <| .nil <| t_law_is_part c ve' hn ⟨_, rfl, ?_⟩⟩
          cases he : partB m e with
          | false =>
            rw [he] at hq
            exact ⟨fun _ => .one <| .ret <| .bl hq, fun z => nomatch z⟩
          | true =>
            rw [he, Bool.true_and] at hq
            refine ⟨fun z => (nomatch z), fun _ => .done ?_⟩
            obtain ⟨ep, op⟩ := part_of hp
            obtain ⟨ee, oe⟩ := part_of he
            obtain ⟨pl, _⟩ := vl_tup (by rw [ep] at vp'; exact vp')
            obtain ⟨el, _⟩ := vl_tup (by rw [ee] at ve'; exact ve')
            rw [List.length_map] at pl el
            generalize natsOf p = ps at *
            generalize natsOf e = es at *
            subst ep ee
            refine .one <| .ret <| .cmp ?_
            refine WE.lc1 2 [("_law_k", 2)] rfl s__law_is_bar.nd (show BlkOk n__law_is_bar q__law_is_bar _ _ from ⟨rfl, by decide +kernel, by decide +kernel, by decide +kernel, by decide +kernel⟩) ?_
            refine WI.tup <| .ix <| .var 1 rfl <| .int <| VI.tup (d := .tup (natsD ps)) (TL.atI_nat (i := 0)) ⟨_, rfl, ?_⟩
            refine CompT.filter (fun d => match d with | .int i => !(es.all fun j => upAt rows i.toNat j) | _ => false) (fun d => d) (fun y hy => ?_) (by rw [List.length_nil, List.length_map]; omega) ?_
            · obtain ⟨i, hi, rfl⟩ := List.mem_map.mp hy
              refine ⟨_, rfl, fun s H C cl fp => .cmp ?_, fun _ s H C cl fp => .var 2 rfl ⟨rfl, rfl⟩⟩
              refine WE.lc1 3 [("_law_j", 3)] rfl s__law_is_bar.nd (blkOk_by (by rfl)) ?_
              refine WI.tup <| .ix <| .var 1 rfl <| .int <| VI.tup (d := .tup (natsD es)) (TL.atI_nat (i := 1)) ⟨_, rfl, ?_⟩
              refine CompT.filter (fun d => match d with | .int j => !(upAt rows i j.toNat) | _ => false) (fun d => d) (fun y hy => ?_) (by rw [List.length_nil, List.length_map]; omega) ?_
              · obtain ⟨j, hj, rfl⟩ := List.mem_map.mp hy
                obtain ⟨r, cc, hr1, hr2, hr3, hr4⟩ := row_at ok (op.lt i hi) (oe.lt j hj)
                refine ⟨_, rfl, fun s H C cl fp => .cmp <| .ix <| .ix <| .var 0 rfl <| .var 2 rfl <| VI.tup (d := .str r) (by rw [TL.atI_nat, List.getElem?_map, hr1]; rfl) <| .var 3 rfl <| VI.str (c := cc) (by omega) (by rw [TL.atI_nat]; exact hr2) <| .str <| VO.neS ⟨_, rfl, ?_, rfl⟩, fun _ s H C cl fp => .var 3 rfl ⟨rfl, rfl⟩⟩
                show (!decide ([cc] = lit "x")) = !(upAt rows i (Int.toNat (j : Int)))
                rw [Int.toNat_natCast, hr4]
                have : decide ([cc] = lit "x") = decide (cc = 120) := by simp [lit]
                rw [this]
              refine .list <| .nil ⟨by show 0 ≤ sizeLine; decide, VO.neL0 hu0 ⟨_, rfl, ?_, rfl⟩⟩
              rw [List.nil_append, List.map_id', List.filter_map]
              show (!decide (List.map _ _ = [])) = !(es.all fun j => upAt rows (Int.toNat (i : Int)) j)
              rw [Int.toNat_natCast]
              simp only [List.map_eq_nil_iff]
              have := filter_none (fun j => upAt rows i j) es
              rw [← this]
              simp [Function.comp_def]
            refine .list <| .nil ⟨by show 0 ≤ sizeLine; decide, VO.eqL0 hu0 ?_⟩
            rw [List.nil_append, List.map_id', List.filter_map]
            have e9 : decide (List.map (fun (i : Nat) => D.int (i : Int)) (ps.filter ((fun d => match d with | .int i => !(es.all fun j => upAt rows i.toNat j) | _ => false) ∘ fun (i : Nat) => D.int (i : Int))) = []) = ps.all fun i => es.all fun j => upAt rows i j := by
              rw [← filter_none]
              simp only [List.map_eq_nil_iff, Function.comp_def, Int.toNat_natCast]
            rw [e9]
            exact hq
    · have e2 : (!decide ((xs.length : Int) = 2)) = true := by
        have : ¬ ((xs.length : Int) = 2) := by omega
        simp [this]
      rw [bar_len h2] at h
      rw [e2]
      exact ⟨fun _ => .one <| .ret <| .bl h, fun z => nomatch z⟩
  | _ => exact ⟨fun _ => ⟨fun _ => .one <| .ret <| .bl h, fun z => nomatch z⟩, fun z => nomatch z⟩
end
end K82
end
section
set_option maxRecDepth 100000
set_option maxHeartbeats 0
/-! K82U: covers counted, in plain Lean. -/
namespace K82
open PySem PySem.Spec PyProof.Rows L2 TL
open He (ga ma fAd)
theorem ixs_count {α : Type} (q : α → Bool) (xs : List α) : (ixs q xs).length = (xs.filter q).length := by
  have key : ∀ n, n ≤ xs.length → ((List.range n).filter fun i => match xs[i]? with
      | some x => q x
      | none => false).length = ((xs.take n).filter q).length := by
    intro n
    induction n with
    | zero => intro _; simp
    | succ n ih =>
      intro h
      have hn : n < xs.length := by omega
      rw [List.range_succ, List.filter_append, List.length_append, ih (by omega), take_snoc (List.getElem?_eq_getElem hn), List.filter_append, List.length_append]
      congr 1
      simp only [List.filter_cons, List.filter_nil, List.getElem?_eq_getElem hn]
      split <;> rfl
  have := key xs.length (Nat.le_refl _)
  rw [List.take_length] at this
  exact this
theorem ups_count (rows : List (List Nat)) : (ups rows).length = (rows.flatten.filter isX).length := by
  unfold ups
  have key : ∀ n, n ≤ rows.length → ((List.range n).flatMap fun p => (ixs isX (rows.getD p [])).map fun e => (p, e)).length = ((rows.take n).flatten.filter isX).length := by
    intro n
    induction n with
    | zero => intro _; simp
    | succ n ih =>
      intro h
      have hn : n < rows.length := by omega
      have eg : rows.getD n [] = rows[n] := by rw [List.getD_eq_getElem?_getD, List.getElem?_eq_getElem hn]; rfl
      rw [List.range_succ, List.flatMap_append, List.length_append, ih (by omega), take_snoc (List.getElem?_eq_getElem hn), List.flatten_append, List.filter_append, List.length_append]
      simp only [List.flatMap_cons, List.flatMap_nil, List.append_nil, List.length_map, ixs_count, eg, List.flatten_cons, List.flatten_nil]
  have := key rows.length (Nat.le_refl _)
  rw [List.take_length] at this
  exact this
theorem ups_nodup (rows : List (List Nat)) : (ups rows).Nodup := by
  unfold ups List.Nodup
  rw [List.pairwise_flatMap]
  refine ⟨fun p _ => ?_, ?_⟩
  · rw [List.pairwise_map]
    exact ixs_lt.imp fun {a b} h e => by
      have := congrArg Prod.snd e
      simp only at this
      omega
  · refine List.pairwise_lt_range.imp fun {a b} h x hx y hy e => ?_
    obtain ⟨i, _, rfl⟩ := List.mem_map.mp hx
    obtain ⟨j, _, rfl⟩ := List.mem_map.mp hy
    have := congrArg Prod.fst e
    simp only at this
    omega
/-- as many crossings are met as stand above if all are met -/
theorem count_cover {rows : List (List Nat)} {m : Nat} (ok : CW rows m) {bs : List (List Nat × List Nat)} (hb : ∀ b ∈ bs, BarOk rows m b) {L : List (Nat × Nat)} (cov : Cov rows m L (metB bs)) : decide ((L.length : Int) = ((rows.flatten.filter isX).length : Nat)) = (ups rows).all (metB bs) := by
  rw [← ups_count]
  have sub : ∀ q ∈ L, q ∈ ups rows := fun q hq => by
    obtain ⟨h1, h2⟩ := cov.lt q hq
    have hm := (cov.iff q).mp hq
    unfold metB at hm
    rw [List.any_eq_true] at hm
    obtain ⟨b, hbm, hq2⟩ := hm
    simp only [Bool.and_eq_true, decide_eq_true_eq] at hq2
    refine mem_ups.mpr ⟨h1, ?_, (hb b hbm).u q.1 hq2.1 q.2 hq2.2⟩
    rw [List.getD_eq_getElem?_getD, List.getElem?_eq_getElem h1]
    have := (ok.r2 _ (List.getElem_mem h1)).1
    simpa [this] using h2
  have le1 := sub_len' cov.nd sub
  rw [Bool.eq_iff_iff, decide_eq_true_eq, List.all_eq_true]
  constructor
  · intro h q hq
    rw [← cov.iff]
    refine Classical.byContradiction fun hn => ?_
    have := sub_len' (m := (ups rows).erase q) cov.nd fun x hx => (List.mem_erase_of_ne (fun e => hn (by rw [← e]; exact hx))).mpr (sub x hx)
    rw [List.length_erase_of_mem hq] at this
    have := List.length_pos_of_mem hq
    omega
  · intro h
    have le2 := sub_len' (ups_nodup rows) fun q hq => (cov.iff q).mpr (h q hq)
    omega
theorem merge_kdL : ∀ (L1 L0 : List (Nat × Nat)), mergeX (kdL L0) (kdL L1) = kdL (L1.foldl insL L0)
  | [], L0 => rfl
  | q :: L1, L0 => by
    have e : mergeX (kdL L0) (kdL (q :: L1)) = mergeX (putX (kdL L0) (prK q) (prD q) (.bl true)) (kdL L1) := by
      show (kdL (q :: L1)).foldl _ (kdL L0) = _
      unfold kdL
      rw [List.map_cons, List.foldl_cons]
      simp only [pr_key]
      rfl
    rw [e, put_kdL, merge_kdL L1]
    rfl
theorem foldl_ins : ∀ {L1 L0 : List (Nat × Nat)}, (L0 ++ L1).Nodup → L1.foldl insL L0 = L0 ++ L1
  | [], L0, _ => by simp
  | q :: L1, L0, h => by
    have hq : q ∉ L0 := fun hq => by
      rw [List.nodup_append] at h
      exact h.2.2 q hq q (List.mem_cons_self ..) rfl
    have e : insL L0 q = L0 ++ [q] := by unfold insL; rw [if_neg hq]
    show L1.foldl insL (insL L0 q) = _
    rw [e, foldl_ins (by rwa [List.append_assoc]), List.append_assoc]; rfl
theorem Cov.insAll {rows : List (List Nat)} {m : Nat} : ∀ {L1 L0 : List (Nat × Nat)} {f : Nat × Nat → Bool}, Cov rows m L0 f → (∀ q ∈ L1, q.1 < rows.length ∧ q.2 < m) → Cov rows m (L1.foldl insL L0) fun q => f q || decide (q ∈ L1)
  | [], L0, f, o, _ => o.ext fun q => by simp
  | x :: L1, L0, f, o, h => by
    have h1 := h x (List.mem_cons_self ..)
    have o2 : Cov rows m (insL L0 x) (fun q => f q || decide (q = x)) := o.ins h1.1 h1.2 fun q => by simp
    refine (Cov.insAll (L1 := L1) o2 fun q hq => h q (List.mem_cons_of_mem x hq)).ext fun q => ?_
    rw [Bool.eq_iff_iff]
    simp only [Bool.or_eq_true, decide_eq_true_eq, List.mem_cons, or_assoc]
theorem map_apart {f : Nat → Int} {N : Nat} (h : ((List.range N).map f).Nodup) {es : List Nat} (he : es.Nodup) (h9 : ∀ j ∈ es, j < N) : (es.map f).Nodup := by
  have inj : ∀ a b, a < N → b < N → f a = f b → a = b := fun a b ha hb e => by
    have i1 : ((List.range N).map f)[a]? = some (f a) := by rw [List.getElem?_map, List.getElem?_range ha]; rfl
    have i2 : ((List.range N).map f)[b]? = some (f b) := by rw [List.getElem?_map, List.getElem?_range hb]; rfl
    have l : a < ((List.range N).map f).length := (List.getElem?_eq_some_iff.mp i1).1
    exact (List.getElem?_inj l h).mp (by rw [i1, i2, e])
  unfold List.Nodup at he ⊢
  rw [List.pairwise_map]
  exact List.Pairwise.imp_of_mem (fun {a b} ha hb hab e => hab (inj a b (h9 a ha) (h9 b hb) e)) he
/-- the hash of a pair of numbers -/
@[irreducible] def hashP (k j : Nat) : Int := reduceHash (Builtin.Tuple.tupleHashOf [hashInt (k : Int), hashInt (j : Int)])
theorem hash_pr (w : World) (q : Nat × Nat) : (prK q).hash w = hashP q.1 q.2 := by
  unfold hashP prK
  rw [NestedKey.hash]
  simp only [NestedKey.hashes, NestedKey.hash]
theorem pr_hash (w : World) (q : Nat × Nat) (d : D) : ((nkey (prD q, d).1).getD .none).hash w = hashP q.1 q.2 := (congrArg (fun o : Option NestedKey => NestedKey.hash w (o.getD .none)) (pr_key q)).trans (hash_pr w q)
theorem kd_hash (w : World) (k : Nat) : ∀ (es : List Nat), ((kdL (es.map fun j => (k, j))).map fun p => ((nkey p.1).getD .none).hash w) = es.map (hashP k)
  | [] => rfl
  | j :: es => congr (congrArg List.cons (pr_hash w (k, j) (.bl true))) (kd_hash w k es)
def hashV (k j : Nat) : Int := reduceHash (Builtin.Tuple.tupleHashOf [hashInt (k : Int), hashInt (j : Int)])
def apartB : List Int → Bool
  | [] => true
  | x :: xs => xs.all (fun y => !(x == y)) && apartB xs
theorem apart_nodup : ∀ {l : List Int}, apartB l = true → l.Nodup
  | [], _ => List.nodup_nil
  | x :: xs, h => by
    simp only [apartB, Bool.and_eq_true, List.all_eq_true] at h
    refine List.nodup_cons.mpr ⟨fun hx => ?_, apart_nodup h.2⟩
    have := h.1 x hx
    simp at this
theorem hashV_apart : (List.range 64).all (fun k => apartB ((List.range 10).map (hashV k))) = true := by decide +kernel
theorem hashP_V (k : Nat) : hashP k = hashV k := by
  unfold hashP hashV
  rfl
theorem hash_apart (w : World) {k : Nat} (hk : k < 64) {es : List Nat} (he : es.Nodup) (h9 : ∀ j ∈ es, j < 10) : ((kdL (es.map fun j => (k, j))).map fun p => ((nkey p.1).getD .none).hash w).Nodup := by
  rw [kd_hash, hashP_V]
  exact map_apart (apart_nodup (List.all_eq_true.mp hashV_apart k (List.mem_range.mpr hk))) he h9
end K82
end
section
set_option maxRecDepth 100000
set_option maxHeartbeats 0
/-! K82V: the law's covers. -/
namespace K82
open PySem PySem.Spec PyProof.Rows L2 TL
open He (ga ma fAd)
theorem key_pr (q : Nat × Nat) (d : D) : KeyT (prD q, d) := ⟨⟨_, rfl⟩, _, pr_key q, pr_depth q⟩
theorem kdL_len (L : List (Nat × Nat)) : (kdL L).length = L.length := by simp [kdL]
theorem met_app (bs : List (List Nat × List Nat)) (b : List Nat × List Nat) (q : Nat × Nat) : metB (bs ++ [b]) q = (metB bs q || (decide (q.1 ∈ b.1) && decide (q.2 ∈ b.2))) := by simp [metB]
section
variable {w : World} {K : PySem.W.Frag} {mg : Str → Option Value} {base : Heap} {M : Mp} {Q : DQ}
theorem t_law_is_cover (c : E82 w K mg base) {rows : List (List Nat)} {m n : Nat} (ok : CW rows m) (r64 : rows.length < 64) (m10 : m < 10) {d : D} (hv : vl n d = true) (hn : n ≤ 1000) (h : Q (.bl (coverB rows m d)) M) : TFn P82 w K mg base 4 (ga K "_law_is_cover") (fdOf K ("_law_is_cover", none)) ["_law_cloth_now", "_law_it"] [.tup (rows.map D.str), d] M Q := by
  refine TFn.of c.f__law_is_cover s__law_is_cover rfl fun cdv A outer s H F hr => ?_
  have hs := sizeLine_eq
  have hu0 : (A.deeper (envOfC "_law_is_cover" q__law_is_cover s.heap.objs.size (ga K "_law_is_cover") cdv)).units < cLine := Nat.lt_of_le_of_lt (Nat.le_add_right _ 64) hr.room.units
  obtain ⟨ty, kd⟩ := vl_ty hv
  have fl : rows.flatten.length ≤ 1000 := by
    have key : ∀ rs : List (List Nat), (∀ r ∈ rs, r.length = m) → rs.flatten.length = rs.length * m := by
      intro rs
      induction rs with
      | nil => intro _; simp
      | cons r rs ih => intro hr; rw [List.flatten_cons, List.length_append, ih (fun x hx => hr x (List.mem_cons_of_mem r hx)), hr r (List.mem_cons_self ..), List.length_cons, Nat.add_mul]; omega
    rw [key rows fun r hr => (ok.r2 r hr).1]
    have := Nat.mul_le_mul (show rows.length ≤ 64 by omega) (show m ≤ 10 by omega)
    omega
  refine .cons <| .ite <| .ww <| .or <| .not <| .val <| .callB c.n_isinstance rfl <| .cons <| .var 1 rfl <| .cons <| .ty c.n_tuple rfl <| .nil <| VC.isi kd.ty kd.tup ⟨_, rfl, ?_⟩
  cases d with
  | tup xs =>
    obtain ⟨xl, xv⟩ := vl_tup hv
    have hq : Q (.bl (xs.all (barB rows m) && (ups rows).all (metB (xs.map barOf)))) M := h
    clear h
    refine ⟨fun z => (nomatch z), fun _ => .or1 <| .cmp ?_⟩
    refine WE.lc1 2 [("_law_bar", 2)] rfl s__law_is_cover.nd (show BlkOk n__law_is_cover q__law_is_cover _ _ from ⟨rfl, by decide +kernel, by decide +kernel, by decide +kernel, by decide +kernel⟩) ?_
    refine WI.tup <| .var 1 rfl ⟨_, rfl, ?_⟩
    refine CompT.filter (fun d => !barB rows m d) (fun d => d) (fun y hy => ?_) (by rw [List.length_nil]; omega) ?_
    · exact ⟨_, rfl, fun s H C cl fp => .not <| .val <| .call (hr.mono (j := 3) (by omega)) c.g__law_is_bar c.f__law_is_bar.kp c.b__law_is_bar <| .cons <| .var 0 rfl <| .cons <| .var 2 rfl <| .nil <| t_law_is_bar c ok (xv y hy) hn ⟨_, rfl, rfl, rfl⟩, fun _ s H C cl fp => .var 2 rfl ⟨rfl, rfl⟩⟩
    refine .list <| .nil ⟨by show 0 ≤ sizeLine; decide, VO.neL0 hu0 ⟨_, rfl, ?_⟩⟩
    rw [List.nil_append, List.map_id', filter_none]
    cases ha : xs.all (barB rows m) with
    | false =>
      rw [ha] at hq
      exact ⟨fun _ => .one <| .ret <| .bl hq, fun z => nomatch z⟩
    | true =>
      rw [ha, Bool.true_and] at hq
      rw [List.all_eq_true] at ha
      refine ⟨fun z => (nomatch z), fun _ => .done ?_⟩
      have ex : xs = (xs.map barOf).map barD := by
        rw [List.map_map]
        exact ((List.map_congr_left fun y hy => ((bar_of (ha y hy)).1).symm).trans (List.map_id xs)).symm
      have hbs : ∀ b ∈ xs.map barOf, BarOk rows m b := fun b hb => by
        obtain ⟨y, hy, rfl⟩ := List.mem_map.mp hb
        exact (bar_of (ha y hy)).2
      generalize xs.map barOf = bs at *
      subst ex
      refine .cons <| .setN 3 s__law_is_cover.nd <| .kdM fun a ha' => ?_
      refine .cons <| .for (L2.passes_of rfl) rfl ?_
      refine WI.tup <| .var 1 rfl ⟨_, rfl, ?_⟩
      refine ForT.map barD (fun pre ρ M' => (∃ y4 y5 y6, ρ = [some (.tup (rows.map D.str)), some (.tup (bs.map barD)), none, some (.ref a), y4, y5, y6, none, none]) ∧ ∃ L, Cov rows m L (metB pre) ∧ M' = mset M a (.kd w (kdL L))) ?_ ?_ ⟨⟨_, _, _, rfl⟩, [], ⟨List.nodup_nil, by simp, fun q => by simp [metB]⟩, rfl⟩
      · rintro pre b post ρ M' e ⟨⟨y4, y5, y6, rfl⟩, L, cov, rfl⟩
        have bo : BarOk rows m b := hbs b (by rw [e]; simp)
        refine .tup rfl <| .cons <| .nameN 4 s__law_is_cover.nd <| .cons <| .nameN 5 s__law_is_cover.nd <| .nil ?_
        refine .one <| .for (L2.passes_of rfl) rfl ?_
        refine WI.tup <| .var 4 rfl ⟨_, rfl, ?_⟩
        refine ForT.map (fun (j : Nat) => D.int (j : Int)) (fun pre2 ρ M' => (∃ y6, ρ = [some (.tup (rows.map D.str)), some (.tup (bs.map barD)), none, some (.ref a), some (.tup (natsD b.1)), some (.tup (natsD b.2)), y6, none, none]) ∧ ∃ L, Cov rows m L (fun q => metB pre q || (decide (q.1 ∈ pre2) && decide (q.2 ∈ b.2))) ∧ M' = mset M a (.kd w (kdL L))) ?_ ?_ ⟨⟨_, rfl⟩, L, cov.ext fun q => by simp, rfl⟩
        · rintro pre2 i post2 ρ M' e2 ⟨⟨y6, rfl⟩, L2, cov2, rfl⟩
          have hi := bo.p.lt i (by rw [e2]; simp)
          have el9 : b.2.length ≤ 10 := by
            have := sub_len' (m := List.range 10) (bo.e.up.imp fun q => by omega) fun x hx => List.mem_range.mpr (by have := bo.e.lt x hx; omega)
            simpa using this
          have enx : (b.2.map fun j => (i, j)).Nodup := by
            unfold List.Nodup
            rw [List.pairwise_map]
            exact bo.e.up.imp fun q e => by
              have := congrArg Prod.snd e
              simp only at this
              omega
          refine .nameN 6 s__law_is_cover.nd ?_
          refine .cons <| .expr <| .bm PySem.F.plainAttrs_dict PySem.F.slot_dict_update PySem.F.type_dict_update <| .var 3 rfl ⟨.kd mset_same, .cons <| .callTy c.n_dict rfl <| .cons ?_⟩
          refine WE.lc1 7 [("_law_j", 7)] rfl s__law_is_cover.nd (show BlkOk n__law_is_cover q__law_is_cover _ _ from ⟨rfl, by decide +kernel, by decide +kernel, by decide +kernel, by decide +kernel⟩) ?_
          refine WI.tup <| .var 5 rfl ⟨_, rfl, ?_⟩
          refine CompT.map (fun d => match d with | .int j => .tup [prD (i, j.toNat), .bl true] | _ => .non) (fun y hy => ?_) (by rw [List.length_nil, List.length_map]; omega) (.nil ?_)
          · obtain ⟨j, hj, rfl⟩ := List.mem_map.mp hy
            exact ⟨_, rfl, fun s H C cl fp => .tuple <| .cons <| .tuple <| .cons <| .var 6 rfl <| .cons <| .var 7 rfl <| .nil ⟨by show 2 ≤ sizeLine; decide, .cons <| .bl <| .nil ⟨by show 2 ≤ sizeLine; decide, rfl, rfl⟩⟩⟩
          have e7 : (natsD b.2).map (fun d => match d with | .int j => D.tup [prD (i, j.toNat), .bl true] | _ => .non) = (kdL (b.2.map fun j => (i, j))).map fun p => .tup [p.1, p.2] := by
            unfold kdL
            rw [List.map_map, List.map_map, List.map_map]
            rfl
          rw [List.nil_append, e7]
          refine VC.dictX hr rfl (fun p hp => ?_) fun p hp => .nil ?_
          · obtain ⟨q, _, rfl⟩ := List.mem_map.mp hp
            exact key_pr q _
          have hpa : a ≠ p := fun e => by rw [← e, mset_same] at hp; cases hp
          have e8 : mergeX [] (kdL (b.2.map fun j => (i, j))) = kdL (b.2.map fun j => (i, j)) := by
            have := merge_kdL (b.2.map fun j => (i, j)) []
            rw [foldl_ins (by simpa using enx), List.nil_append] at this
            exact this
          rw [e8]
          have hlen := grid_len cov2.nd cov2.lt
          have h4 := Nat.mul_le_mul (show rows.length ≤ 64 by omega) (show m ≤ 10 by omega)
          refine VM.updateX hr (by rw [mset_ne hpa]; exact mset_same) mset_same hpa ?_ (by rw [kdL_len, kdL_len, List.length_map]; omega) ?_
          · exact .inr (hash_apart w (by omega) (bo.e.up.imp fun q => by omega) fun j hj => by have := bo.e.lt j hj; omega)
          rw [merge_kdL]
          refine WSs.drop p <| .done ⟨⟨_, rfl⟩, (b.2.map fun j => (i, j)).foldl insL L2, (cov2.insAll (L1 := b.2.map fun j => (i, j)) fun q hq => ?_).ext fun q => ?_, ?_⟩
          · obtain ⟨j, hj, rfl⟩ := List.mem_map.mp hq
            exact ⟨hi, bo.e.lt j hj⟩
          · rw [Bool.eq_iff_iff]
            simp only [Bool.or_eq_true, Bool.and_eq_true, decide_eq_true_eq, List.mem_append, List.mem_singleton, List.mem_map]
            constructor
            · rintro ((h | ⟨h1, h2⟩) | ⟨j, h1, rfl⟩)
              · exact .inl h
              · exact .inr ⟨.inl h1, h2⟩
              · exact .inr ⟨.inr rfl, h1⟩
            · rintro (h | ⟨h1 | h1, h2⟩)
              · exact .inl (.inl h)
              · exact .inl (.inr ⟨h1, h2⟩)
              · exact .inr ⟨q.2, h2, by rw [← h1]⟩
          · rw [mset_comm (fun e => hpa e.symm), mset_mset]
            exact mdel_mset (by rw [mset_ne (fun e => hpa e.symm)]; rw [mset_ne (fun e => hpa e.symm)] at hp; exact hp)
        · rintro ρ M' ⟨⟨y6, rfl⟩, L2, cov2, rfl⟩
          exact ⟨_, Le.refl _, ⟨_, _, _, rfl⟩, L2, cov2.ext fun q => (met_app pre b q).symm, rfl⟩
      · rintro ρ M' ⟨⟨y4, y5, y6, rfl⟩, L, cov, rfl⟩
        refine ⟨[some (.tup (rows.map D.str)), some (.tup (bs.map barD)), none, some (.ref a), none, none, none, none, none], by simp [Le], ?_⟩
        refine .one <| .ret <| .drop a <| .cmp <| .callB c.n_len rfl <| .cons <| .var 3 rfl <| .nil <| VC.lenX mset_same <| .callB c.n_len rfl <| .cons ?_
        refine WE.lc1 8 [("_law_sign", 8)] rfl s__law_is_cover.nd (show BlkOk n__law_is_cover q__law_is_cover _ _ from ⟨rfl, by decide +kernel, by decide +kernel, by decide +kernel, by decide +kernel⟩) ?_
        refine WI.str <| .bm PySem.F.plainAttrs_str PySem.F.slot_str_join PySem.F.type_str_join <| .str ⟨.str, .cons <| .var 0 rfl <| .nil <| VM.joinT ?_ ⟨_, rfl, ?_⟩⟩
        · rw [← List.length_flatten]; omega
        refine CompT.filter (fun d => match d with | .str [x] => isX x | _ => false) (fun d => d) (fun y hy => ?_) (by rw [List.length_nil, List.length_map]; omega) (.nil ?_)
        · obtain ⟨x, hx, rfl⟩ := List.mem_map.mp hy
          refine ⟨_, rfl, fun s H C cl fp => .cmp <| .var 8 rfl <| .str <| VO.eqS ⟨_, rfl, ?_, rfl⟩, fun _ s H C cl fp => .var 8 rfl ⟨rfl, rfl⟩⟩
          show decide ([x] = lit "x") = isX x
          simp [lit]
        · rw [List.nil_append, List.map_id', List.filter_map]
          have e10 : (rows.flatten.filter ((fun d => match d with | .str [x] => isX x | _ => false) ∘ fun c => D.str [c])) = rows.flatten.filter isX := rfl
          rw [e10]
          refine VC.len (n := (rows.flatten.filter isX).length) (by show some _ = some _; rw [List.length_map]) <| VO.eqI ?_
          rw [kdL_len, count_cover ok hbs cov, mdel_mset ha']
          exact hq
  | _ => exact ⟨fun _ => ⟨fun _ => .one <| .ret <| .bl h, fun z => nomatch z⟩, fun z => nomatch z⟩
end
end K82
end
section
set_option maxRecDepth 100000
set_option maxHeartbeats 0
/-! K82W: the law's rows, bars, presses. -/
namespace K82
open PySem PySem.Spec PyProof.Rows L2 TL
open He (ga ma fAd)
theorem flat_signs (cs : List Nat) : (cs.map fun c => [c]).flatten = cs := by
  induction cs with
  | nil => rfl
  | cons c cs ih => rw [List.map_cons, List.flatten_cons, ih]; rfl
theorem sum_ones {α : Type} (f : α → Nat) : ∀ l : List α, (((l.map fun e => [f e]).map List.length)).sum = l.length
  | [] => rfl
  | a :: l => by rw [List.map_cons, List.map_cons, List.sum_cons, sum_ones f l]; simp; omega
theorem sublist_press {m : Nat} {xs : List Nat} (hm : m ≤ 26) (h : xs.Sublist (alpha.take m)) : pressT m xs = true := by
  have up : (alpha.take m).Pairwise (· < ·) := by
    rw [alpha_range hm, List.pairwise_map]
    exact List.pairwise_lt_range.imp fun q => by omega
  have up2 := up.sublist h
  unfold pressT
  rw [Bool.and_eq_true, List.all_eq_true, decide_eq_true_eq]
  refine ⟨fun c hc => decide_eq_true (h.subset hc), ?_⟩
  have nd : xs.Nodup := up2.imp fun q => by omega
  rw [uniq_self (by simpa using nd), List.nil_append]
  exact sortedN_one (sortN_perm xs).symm (up2.imp fun q => by omega) (sortN_le xs)
section
variable {w : World} {K : PySem.W.Frag} {mg : Str → Option Value} {base : Heap} {M : Mp} {Q : DQ}
theorem t_law_woven (c : E82 w K mg base) {v : LW} (ok : v.Ok) {xs : List D} (xl : xs.length ≤ 1000) (hx : ∀ y ∈ xs, pressB v.lifts.length y = true) (ht : ∀ y ∈ xs, (txtOf y).length ≤ 1000) (h : Q (.tup ((rowsP v xs).map D.str)) M) :
    TFn P82 w K mg base 1 (ga K "_law_woven") (fdOf K ("_law_woven", none)) ["_law_w", "_law_it"] [wD v, .tup xs] M Q := by
  refine TFn.of c.f__law_woven s__law_woven rfl fun cdv A outer s H F hr => ?_
  have hs := sizeLine_eq
  have hu1 : (A.deeper (envOfC "_law_woven" q__law_woven s.heap.objs.size (ga K "_law_woven") cdv)).units + 1 < cLine := Nat.lt_of_le_of_lt (Nat.add_le_add_left (by omega) _) hr.room.units
  have l1 := ok.l1
  have e1 := ok.e1
  refine .cons <| .setN 2 s__law_woven.nd <| .listM <| .nil ⟨by show 0 ≤ sizeLine; decide, fun p hp => ?_⟩
  refine .cons <| .for (L2.passes_of rfl) rfl ?_
  refine WI.tup <| .var 1 rfl ⟨xs.map id, by rw [List.map_id], ?_⟩
  refine ForT.map id (fun pre ρ M' => (∃ x3 x4 x5, ρ = [some (wD v), some (.tup xs), some (.ref p), x3, x4, x5, none]) ∧ M' = mset M p (.lst ((rowsP v pre).map D.str))) ?_ ?_ ⟨⟨none, none, none, rfl⟩, rfl⟩
  · rintro pre y post ρ M' e ⟨⟨x3, x4, x5, rfl⟩, rfl⟩
    have my : y ∈ xs := by rw [e]; simp
    have hpl : pre.length < xs.length := by rw [e]; simp
    obtain ⟨et, pt⟩ := press_txt (hx y my)
    have tl := ht y my
    have okt := press_ok pt
    generalize txtOf y = t at *
    subst et
    refine .nameN 3 s__law_woven.nd ?_
    refine .cons <| .setN 4 s__law_woven.nd <| .listM <| .nil ⟨by show 0 ≤ sizeLine; decide, fun u hu' => ?_⟩
    have up : u ≠ p := fun e => by rw [e, mset_same] at hu'; cases hu'
    have pu : p ≠ u := fun e => up e.symm
    refine .cons <| .for (L2.passes_of rfl) rfl ?_
    refine WI.str <| .var 3 rfl ⟨t, rfl, ?_⟩
    refine ForT.map (fun x => D.str [x]) (fun pre2 ρ M' => (∃ x5, ρ = [some (wD v), some (.tup xs), some (.ref p), some (.str t), some (.ref u), x5, none]) ∧ M' = mset (mset M p (.lst ((rowsP v pre).map D.str))) u (.lst ((upT v pre2).map D.int))) ?_ ?_ ⟨⟨_, rfl⟩, rfl⟩
    · rintro pre2 x post2 ρ M' e2 ⟨⟨x5, rfl⟩, rfl⟩
      have mx : x ∈ alpha.take v.lifts.length := of_decide_eq_true (List.all_eq_true.mp okt x (by rw [e2]; simp))
      have hpl2 : pre2.length < t.length := by rw [e2]; simp
      obtain ⟨i, hi, rfl⟩ := mem_alpha l1 mx
      have eL : v.lifts.getD (97 + i - 97) [] = v.lifts[i] := by rw [Nat.add_sub_cancel_left, List.getD_eq_getElem?_getD, List.getElem?_eq_getElem hi]; rfl
      have l100 : v.lifts[i].length ≤ 100 := (ok.l2 _ (List.getElem_mem hi)).1
      have ul := upT_len ok pre2
      refine .nameN 5 s__law_woven.nd ?_
      refine .cons <| .expr <| .bm PySem.F.plainAttrs_list PySem.F.slot_list_extend PySem.F.type_list_extend <| .var 4 rfl ⟨.lstM mset_same, .cons ?_⟩
      refine .callTy c.n_list rfl <| .cons <| .ix <| .ix <| .var 0 rfl <| .str <| VI.get hu1 (sk_str _) w_look3 <| .bm PySem.F.plainAttrs_str PySem.F.slot_str_index PySem.F.type_str_index <| .str ⟨.str, .cons <| .var 5 rfl <| .nil <| VM.sindex (occ_alpha ⟨i, by omega⟩) <| VI.tup (d := tupI v.lifts[i]) (by rw [TL.atI_nat, List.getElem?_map, List.getElem?_eq_getElem hi]; rfl) <| .nil <| VC.listTM fun b hb => .nil ?_⟩
      have ub : u ≠ b := fun e => by rw [← e, mset_same] at hb; cases hb
      refine VM.extend (by rw [mset_ne ub]; exact mset_same) mset_same (by rw [List.length_map, List.length_map]; omega) ?_
      refine WSs.drop b <| .done ⟨⟨_, rfl⟩, ?_⟩
      have bu : b ≠ u := fun e => ub e.symm
      rw [mset_comm bu, mset_mset, upT_snoc, eL, List.map_append]
      exact mdel_mset (by rw [mset_ne bu]; rw [mset_ne bu] at hb; exact hb)
    · rintro ρ M' ⟨⟨x5, rfl⟩, rfl⟩
      refine ⟨[some (wD v), some (.tup xs), some (.ref p), some (.str t), some (.ref u), none, none], by simp [Le], ?_⟩
      refine .freeze 4 rfl mset_same ?_
      rw [mdel_mset hu']
      refine .one <| .expr <| .bm PySem.F.plainAttrs_list PySem.F.slot_list_append PySem.F.type_list_append <| .var 2 rfl ⟨.lstM mset_same, .cons <| .bm PySem.F.plainAttrs_str PySem.F.slot_str_join PySem.F.type_str_join <| .str ⟨.str, .cons ?_⟩⟩
      refine WE.lc1 6 [("_law_shaft", 6)] rfl s__law_woven.nd (show BlkOk n__law_woven q__law_woven _ _ from ⟨rfl, by decide +kernel, by decide +kernel, by decide +kernel, by decide +kernel⟩) ?_
      refine WI.tup <| .ix <| .var 0 rfl <| .str <| VI.get hu1 (sk_str _) w_look2 ⟨_, rfl, ?_⟩
      refine CompT.map (fun d => match d with | .int e => .str [if e ∈ upT v t then 120 else 45] | _ => .non) (fun x hx => ?_) (by rw [List.length_nil, List.length_map]; omega) (.nil ?_)
      · obtain ⟨e, he, rfl⟩ := List.mem_map.mp hx
        refine ⟨_, rfl, fun s H C cl fp => .ife <| .cmp <| .var 6 rfl <| .var 4 rfl <| VO.inL rfl (flat_ints _) ⟨_, rfl, ?_⟩⟩
        rw [any_ints]
        refine ⟨fun z => ?_, fun z => ?_⟩
        · have := of_decide_eq_true z
          exact .str ⟨by simp [this, lit], rfl⟩
        · have := of_decide_eq_false z
          exact .str ⟨by simp [this, lit], rfl⟩
      have e3 : (v.ends.map D.int).map (fun d => match d with | .int e => D.str [if e ∈ upT v t then 120 else 45] | _ => .non) = (v.ends.map fun e => [if e ∈ upT v t then 120 else 45]).map D.str := by rw [List.map_map, List.map_map]; rfl
      rw [List.nil_append, e3]
      refine VM.joinL (by rw [sum_ones]; omega) <| .nil <| VM.append mset_same (by simp [rowsP]; omega) ⟨⟨_, _, _, rfl⟩, ?_⟩
      have e4 : (v.ends.map fun e => [if e ∈ upT v t then 120 else 45]).flatten = rowP v t := by
        unfold rowP pickOf
        rw [← flat_signs (v.ends.map fun e => if e ∈ upT v t then 120 else 45), List.map_map]
        rfl
      rw [e4, mset_mset]
      simp [rowsP, txtOf]
  · rintro ρ M' ⟨⟨x3, x4, x5, rfl⟩, rfl⟩
    refine ⟨_, Le.refl _, .one <| .ret <| .drop p <| .callTy c.n_tuple rfl <| .cons <| .var 2 rfl <| .nil <| VC.tupleM mset_same ?_⟩
    rw [mdel_mset hp]
    exact h
theorem t_law_bars (c : E82 w K mg base) {v : LW} (ok : v.Ok) {ts : List (List Nat)} (hl : ts.length ≤ 1000) (h : Q (.tup ((barsBy v ts).map barD)) M) :
    TFn P82 w K mg base 1 (ga K "_law_bars") (fdOf K ("_law_bars", none)) ["_law_w", "_law_it"] [wD v, .tup (ts.map D.str)] M Q := by
  refine TFn.of c.f__law_bars s__law_bars rfl fun cdv A outer s H F hr => ?_
  have hs := sizeLine_eq
  have hu1 : (A.deeper (envOfC "_law_bars" q__law_bars s.heap.objs.size (ga K "_law_bars") cdv)).units + 1 < cLine := Nat.lt_of_le_of_lt (Nat.add_le_add_left (by omega) _) hr.room.units
  have hu0 : (A.deeper (envOfC "_law_bars" q__law_bars s.heap.objs.size (ga K "_law_bars") cdv)).units < cLine := Nat.lt_of_le_of_lt (Nat.le_add_right _ 64) hr.room.units
  have l1 := ok.l1
  have e1 := ok.e1
  refine .cons <| .asg <| .tuple <| .cons <| .list <| .nil ⟨by show 0 ≤ sizeLine; decide, .cons <| .str <| .nil ⟨by show 2 ≤ sizeLine; decide, .tup rfl <| .cons <| .nameN 2 s__law_bars.nd <| .cons <| .nameN 3 s__law_bars.nd <| .nil ?_⟩⟩
  refine .cons <| .for (L2.passes_of rfl) rfl ?_
  refine WI.enum c.n_enumerate <| .ix <| .var 0 rfl <| .str <| VI.get hu1 (sk_str _) w_look3 ⟨_, rfl, ?_⟩
  unfold enD
  rw [List.length_map]
  refine ForT.map (fun (i : Nat) => D.tup [.int (i : Int), (v.lifts.map tupI).getD i .non]) (fun pre ρ M' => (∃ y4 y5 y6 y9, ρ = [some (wD v), some (.tup (ts.map D.str)), some (.lst ((barsTo v ts pre).map barD)), some (.str alpha), y4, y5, y6, none, none, y9, none, none]) ∧ M' = M) ?_ ?_ ⟨⟨_, _, _, _, rfl⟩, rfl⟩
  · rintro pre i post ρ M' e ⟨⟨y4, y5, y6, y9, rfl⟩, rfl⟩
    obtain ⟨hpl, hi⟩ := range_at e
    have eg : (v.lifts.map tupI).getD i .non = tupI v.lifts[i] := by rw [List.getD_eq_getElem?_getD, List.getElem?_map, List.getElem?_eq_getElem hi]; rfl
    have el : v.lifts.getD i [] = v.lifts[i] := by rw [List.getD_eq_getElem?_getD, List.getElem?_eq_getElem hi]; rfl
    have ea : alpha[i]? = some (97 + i) := by
      have := alpha_range (show 26 ≤ 26 by omega)
      have e26 : alpha.take 26 = alpha := by decide +kernel
      rw [e26] at this
      rw [this, List.getElem?_map, List.getElem?_range (by omega)]; rfl
    rw [eg]
    generalize v.lifts[i] = l at *
    refine .tup rfl <| .cons <| .nameN 4 s__law_bars.nd <| .cons <| .nameN 5 s__law_bars.nd <| .nil ?_
    refine .cons <| .setN 6 s__law_bars.nd <| .callTy c.n_tuple rfl <| .cons ?_
    refine WE.lc2 7 8 [("_law_k", 7), ("_law_press", 8)] rfl s__law_bars.nd (show BlkOk n__law_bars q__law_bars _ _ from ⟨rfl, by decide +kernel, by decide +kernel, by decide +kernel, by decide +kernel⟩) ?_
    refine WI.enum c.n_enumerate <| .var 1 rfl ⟨_, rfl, ?_⟩
    refine CompT.ixs (fun t => decide (97 + i ∈ t)) (fun j t hj => ⟨_, rfl, fun s H C cl fp => .cmp <| .ix <| .var 3 rfl <| .var 4 rfl <| VI.str (c := 97 + i) (by rw [alpha_len]; omega) (by rw [TL.atI_nat]; exact ea) <| .var 8 rfl <| .inSign ⟨_, rfl, rfl, rfl⟩, fun s H C cl fp => .var 7 rfl ⟨rfl, rfl⟩⟩) (by omega) <| .nil <| VC.tupleL ?_
    refine .cons <| .setN 9 s__law_bars.nd <| .callTy c.n_tuple rfl <| .cons ?_
    refine WE.lc2 10 11 [("_law_j", 10), ("_law_shaft", 11)] rfl s__law_bars.nd (show BlkOk n__law_bars q__law_bars _ _ from ⟨rfl, by decide +kernel, by decide +kernel, by decide +kernel, by decide +kernel⟩) ?_
    refine WI.enum c.n_enumerate <| .ix <| .var 0 rfl <| .str <| VI.get hu1 (sk_str _) w_look2 ⟨_, rfl, ?_⟩
    refine CompT.ixs (fun e => decide (e ∈ l)) (fun j t hj => ⟨_, rfl, fun s H C cl fp => .cmp <| .var 11 rfl <| .var 5 rfl <| .inT rfl (flat_ints _) ⟨_, rfl, by rw [any_ints], rfl⟩, fun s H C cl fp => .var 10 rfl ⟨rfl, rfl⟩⟩) (by omega) <| .nil <| VC.tupleL ?_
    have et : treadleBar v ts i = (ixs (fun t => decide (97 + i ∈ t)) ts, ixs (fun e => decide (e ∈ l)) v.ends) := by unfold treadleBar; rw [el]
    generalize ixs (fun t => decide (97 + i ∈ t)) ts = ps at *
    generalize ixs (fun e => decide (e ∈ l)) v.ends = es at *
    have eto : barsTo v ts (pre ++ [i]) = barsTo v ts pre ++ (if fullBar (ps, es) = true then [(ps, es)] else []) := by
      unfold barsTo
      rw [List.map_append, List.filter_append]
      simp only [List.map_cons, List.map_nil, et, List.filter_cons, List.filter_nil]
    have bl := barsTo_len v ts pre
    refine .one <| .setN 2 s__law_bars.nd <| .bin <| .var 2 rfl <| .ife <| .ww <| .and <| .cmp <| .var 6 rfl <| .tuple <| .nil ⟨by decide, VO.neT0 hu0 ⟨_, rfl, ?_⟩⟩
    rw [nats_nil]
    by_cases h1 : ps = []
    · rw [decide_eq_true h1]
      exact ⟨fun _ => ⟨fun z => (nomatch z), fun _ => .list <| .nil ⟨by show 0 ≤ sizeLine; decide, VO.catL (ys := ([] : List (List Nat × List Nat)).map barD) (by rw [List.length_map, List.length_map]; simp; omega) ⟨⟨_, _, _, _, by rw [eto, if_neg (by simp [fullBar, h1]), List.map_append]; rfl⟩, rfl⟩⟩⟩, fun z => nomatch z⟩
    · rw [decide_eq_false h1]
      refine ⟨fun z => (nomatch z), fun _ => .and1 <| .cmp <| .var 9 rfl <| .tuple <| .nil ⟨by decide, VO.neT0 hu0 ⟨_, rfl, ?_⟩⟩⟩
      rw [nats_nil]
      by_cases h2 : es = []
      · rw [decide_eq_true h2]
        exact ⟨fun z => (nomatch z), fun _ => .list <| .nil ⟨by show 0 ≤ sizeLine; decide, VO.catL (ys := ([] : List (List Nat × List Nat)).map barD) (by rw [List.length_map, List.length_map]; simp; omega) ⟨⟨_, _, _, _, by rw [eto, if_neg (by simp [fullBar, h2]), List.map_append]; rfl⟩, rfl⟩⟩⟩
      · rw [decide_eq_false h2]
        exact ⟨fun _ => .list <| .cons <| .tuple <| .cons <| .var 6 rfl <| .cons <| .var 9 rfl <| .nil ⟨by show 2 ≤ sizeLine; decide, .nil ⟨by show 1 ≤ sizeLine; decide, VO.catL (ys := ([(ps, es)] : List (List Nat × List Nat)).map barD) (by rw [List.length_map, List.length_map]; simp; omega) ⟨⟨_, _, _, _, by rw [eto, if_pos (by simp [fullBar, h1, h2]), List.map_append]; rfl⟩, rfl⟩⟩⟩, fun z => nomatch z⟩
  · rintro ρ M' ⟨⟨y4, y5, y6, y9, rfl⟩, rfl⟩
    exact ⟨_, Le.refl _, .one <| .ret <| .callTy c.n_tuple rfl <| .cons <| .var 2 rfl <| .nil <| VC.tupleL h⟩
end
end K82
end
section
set_option maxRecDepth 100000
set_option maxHeartbeats 0
/-! TRt: t[::-1] of tuples. -/
namespace TL
open PySem PySem.Spec PyProof.Rows L2
theorem rev_picks {α : Type} (xs : Array α) : ((List.range xs.size).filterMap fun (k : Nat) => xs[(((xs.size : Int) - 1) + (k : Int) * -1).toNat]?) = xs.toList.reverse := by
  have e : ((List.range xs.size).filterMap fun (k : Nat) => xs[(((xs.size : Int) - 1) + (k : Int) * -1).toNat]?) = ((List.range xs.size).map fun k => xs.size - 1 - k).filterMap (xs[·]?) := by
    rw [List.filterMap_map]
    have key : ∀ l : List Nat, (∀ k ∈ l, k < xs.size) → (l.filterMap fun (k : Nat) => xs[(((xs.size : Int) - 1) + (k : Int) * -1).toNat]?) = l.filterMap ((fun i => xs[i]?) ∘ fun k => xs.size - 1 - k) := by
      intro l
      induction l with
      | nil => intro _; rfl
      | cons k l ih =>
        intro h
        have hk := h k (List.mem_cons_self ..)
        have e1 : (((xs.size : Int) - 1) + (k : Int) * -1).toNat = xs.size - 1 - k := by omega
        rw [List.filterMap_cons, List.filterMap_cons, ih fun j hj => h j (List.mem_cons_of_mem k hj), e1]
        rfl
    exact key _ fun k hk => List.mem_range.mp hk
  rw [e, PySem.W.krv_range, List.filterMap_reverse, PySem.W.krv_all]
section
variable {prog : Program} {w : World} {A : Around} {E : Value → Shared → Prop} {s : Shared}
theorem applied_rev {sl : Addr} {vl vu vs : Value} {n : Nat} {Q : Int × Int × Nat → Shared → Prop} (hs : s.heap.IsSliceOf sl vl vu vs) (pl : IsPart vl none) (pu : IsPart vu none) (ps : IsPart vs (some (-1)))
    (h : Q ((n : Int) - 1, -1, n) s) : wpAny (model prog w) A (Builtin.Slice.sliceApplied (.ref sl) (pure (n : Int))) Q E s := by
  obtain ⟨ob, hob, hcl, hda⟩ := id hs
  unfold Builtin.Slice.sliceApplied Builtin.Slice.sliceFields
  refine wpAny_bind (wpAny_bind (wpAny_field hob hda (x := vl) rfl (wpAny_bind (wpAny_field hob hda (x := vu) rfl (wpAny_bind (wpAny_field hob hda (x := vs) rfl (wpAny_pure ?_)))))))
  refine wpAny_bind (HT.slicePart_ ps ?_)
  show wpAny _ _ (if ((-1 : Int) == 0) = true then _ else _) _ _ s
  rw [if_neg (by decide)]
  refine wpAny_bind (HT.slicePart_ pl (wpAny_bind (HT.slicePart_ pu (wpAny_bind (wpAny_pure ?_)))))
  show wpAny _ _ (match Builtin.Slice.sliceAdjust none none (-1) (n : Int) with | (lo, hi) => pure (lo, (-1 : Int), Builtin.Slice.slicePlaces lo hi (-1))) _ _ s
  have e : Builtin.Slice.sliceAdjust none none (-1) (n : Int) = ((n : Int) - 1, -1) := rfl
  rw [e]
  have e2 : Builtin.Slice.slicePlaces ((n : Int) - 1) (-1) (-1) = n := by
    unfold Builtin.Slice.slicePlaces
    rw [if_neg (by decide)]
    by_cases hn : n = 0
    · subst hn; rfl
    · rw [if_pos (by omega), show (- -1 : Int) = 1 by decide, Int.ediv_one]
      omega
  show wpAny _ _ (pure ((n : Int) - 1, (-1 : Int), Builtin.Slice.slicePlaces ((n : Int) - 1) (-1) (-1))) _ _ s
  rw [e2]
  exact wpAny_pure h
theorem getItem_rev {t sl : Addr} {items : Array Value} {vl vu vs : Value} {Q : Value → Shared → Prop} (ht : IsTup s.heap t items) (hs : s.heap.IsSliceOf sl vl vu vs) (pl : IsPart vl none) (pu : IsPart vu none) (ps : IsPart vs (some (-1)))
    (h : Q (.ref s.heap.objs.size) { s with heap := s.heap.push { cls := .type "tuple", data := .seq items.toList.reverse.toArray } }) (hsz : items.size ≤ sizeLine) : wpAny (model prog w) A (getItem (.ref t) (.ref sl)) Q E s := by
  have hok : sizeOk (.seq items.toList.reverse.toArray) := by
    show items.toList.reverse.toArray.size ≤ sizeLine
    rw [List.size_toArray, List.length_reverse, Array.length_toList]
    exact hsz
  obtain ⟨ob, hob, hcl, hda⟩ := id hs
  have hTy : s.TypeIs (.ref sl) "slice" := ⟨ob, hob, hcl⟩
  unfold getItem
  try with_reducible refine wpAny_holding ?_
  first | refine wpAny_bind (wpAny_pure ?_) | skip
  refine wpAny_bind (wpAny_sequenceKey ht.typeIs (by decide) (wpAny_bind (wpAny_callSpecial?_slot (name := Str.ofString "__getitem__") ht.typeIs PyProof.Rows.slot_tuple_getitem (wpAny_call_entry PyProof.Rows.slot_tuple_getitem ht.typeIs entry_tuple_getitem ?_ (args_tuple_getitem _ _)))))
  show wpAny _ _ (Builtin.Tuple.tupleItemsOf (.ref t) >>= _) _ _ s
  refine wpAny_bind (tupleItemsOf_ ht (wpAny_bind (wpAny_typeOf hTy ?_)))
  rw [if_pos (by decide)]
  refine wpAny_bind (applied_rev hs pl pu ps ?_)
  have hno : ¬ ((((items.size : Int) - 1) == 0 && (-1 : Int) == 1 && items.size == items.size) = true) := by
    intro q
    rw [Bool.and_eq_true, Bool.and_eq_true] at q
    exact absurd q.1.2 (by decide)
  show wpAny _ _ (if (((items.size : Int) - 1) == 0 && (-1 : Int) == 1 && items.size == items.size) = true then _ else _) _ _ s
  rw [if_neg hno, rev_picks]
  first
    | exact wpAny_bind (m := Builtin.Tuple.tupleExact _) (wpAny_newObj_type (wpAny_pure ⟨_, rfl, wpAny_pure h⟩) hok)
    | exact wpAny_bind (m := Builtin.Tuple.tupleExact _) (wpAny_newObj_type (wpAny_bind (wpAny_pure (wpAny_pure ⟨_, rfl, wpAny_pure h⟩))) hok)
    | exact wpAny_bind (wpAny_bind (m := Builtin.Tuple.tupleExact _) (wpAny_newObj_type (wpAny_pure (wpAny_pure ⟨_, rfl, wpAny_pure h⟩)) hok))
    | exact wpAny_bind (wpAny_bind (m := Builtin.Tuple.tupleExact _) (wpAny_newObj_type (wpAny_pure ⟨_, rfl, wpAny_pure h⟩) hok))
end
section
variable {X : Cx} {ρ : En} {M : Mp} {Q : DQ} {e : Expr} {k : Nat} {p1 p2 p3 pos : Pos}
theorem WE.revT (h : WE X e ρ M fun d M1 => ∃ xs, d = .tup xs ∧ Q (.tup xs.reverse) M1) : WE X (.Subscript e (.Slice none none (some (.UnaryOp .USub (.Constant (.int 1) k p1) p2)) p3) pos) ρ M Q := by
  refine ⟨fun pins s σ H F I S => ?_⟩
  refine Subscript_ (thn (h.run pins s σ H F I S) fun u s1 ⟨v, H1, F1, M1, d, I1, r1, t1, rp, xs, ed, q⟩ => ?_)
  subst ed
  cases rp with
  | @tup a ws _ sq rr =>
    cases r1
    have hst : PO X (some (.UnaryOp .USub (.Constant (.int 1) k p1) p2)) (tPart (tUn (rU fun i => .int (-i)) (tC (.int 1)))) := po_some (pe_un un_neg pe_int)
    refine wpAny_Slice (thn (po_none.run pins s1 σ H1 (fun o H2 => o = none ∧ H2 = H1) I1 ⟨rfl, rfl⟩) fun vl s2 ⟨l, H2, I2, pl, el, e2⟩ => ?_)
    subst el e2
    refine thn (po_none.run pins s2 σ _ (fun o H3 => o = none ∧ H3 = _) I2 ⟨rfl, rfl⟩) fun vu s3 ⟨w', H3, I3, pu, eu, e3⟩ => ?_
    subst eu e3
    refine thn (hst.run pins s3 σ _ (fun o H4 => o = some (-1) ∧ H4 = _) I3 ⟨1, rfl, -1, rfl, rfl, rfl⟩) fun vs s4 ⟨o, H4, I4, ps, eo, e4⟩ => ?_
    subst eo e4
    have I5 : Inv X pins σ _ { s4 with heap := s4.heap.push { cls := .type "slice", data := .fields #[vl, vu, vs] } } := I4.kept (t' := s4.toks) fun b ob q => Heap.get?_push_of_some _ q
    obtain ⟨its, rv, ht, hz⟩ := I5.tuple (t1.good.sub.sqT sq)
    have hl := rv.length
    show wpAny (model X.prog X.w) X.A (subscriptTail e (.Slice none none (some (.UnaryOp .USub (.Constant (.int 1) k p1) p2)) p3) (.ref a) (.ref s4.heap.objs.size)) (TEnd X pins σ H F M Q) X.xe { s4 with heap := s4.heap.push { cls := .type "slice", data := .fields #[vl, vu, vs] } }
    refine tail_any (ops := [.ref a, .ref s4.heap.objs.size]) ht.typeIs PyProof.Rows.slot_tuple_getitem.lookup ?_ (by with_unfolding_all rfl)
    refine getItem_rev ht (Heap.IsSliceOf.new _ vl vu vs) pl pu ps ?_ (by rw [List.size_toArray]; omega)
    have hf := I5.hok.fresh (Nat.le_refl _)
    have t2 := Stp.new (o := .tup ws.reverse) t1.good hf
    exact ⟨.ref _, _, _, M1, _, I5.laid (t' := s4.toks) (o := .tup ws.reverse) (fun b ob q => Heap.get?_push_of_some _ q) (Nat.le_refl _) ⟨by rw [List.length_reverse]; exact hz, _, rv.reverse, IsTup.new _ _⟩, rfl, t1.trans t2, .tup (.of upd_same) (t2.reps rr.reverse), q⟩
end
end TL
end
section
set_option maxRecDepth 100000
set_option maxHeartbeats 0
/-! TVw: how long, how deep values are. -/
namespace TL
open PySem PySem.Spec PyProof.Rows L2
abbrev wtD (d : D) : Nat := (rpy d).weight
abbrev dpD (d : D) : Nat := (rpy d).depth
abbrev wtAll (ds : List D) : Nat := PyData.weightAll (rpys ds)
theorem wtAll_nil : wtAll [] = 0 := by simp [wtAll, rpys, PyData.weightAll]
theorem wtAll_cons (d : D) (ds : List D) : wtAll (d :: ds) = wtD d + 1 + wtAll ds := by simp [wtAll, rpys, PyData.weightAll]
theorem wtAll_app : ∀ a b : List D, wtAll (a ++ b) = wtAll a + wtAll b
  | [], b => by simp [wtAll_nil]
  | x :: a, b => by rw [List.cons_append, wtAll_cons, wtAll_cons, wtAll_app a b]; omega
theorem wtAll_split (xs : List D) (i : Nat) : wtAll (xs.take i) + wtAll (xs.drop i) = wtAll xs := by rw [← wtAll_app, List.take_append_drop]
theorem wtAll_rev (xs : List D) : wtAll xs.reverse = wtAll xs := by
  induction xs with
  | nil => rfl
  | cons x xs ih => rw [List.reverse_cons, wtAll_app, ih, wtAll_cons, wtAll_cons, wtAll_nil]; omega
theorem wtAll_sub {a b : List D} (h : a.Sublist b) : wtAll a ≤ wtAll b := by
  induction h with
  | slnil => exact Nat.le_refl _
  | cons x _ ih => rw [wtAll_cons]; omega
  | cons_cons x _ ih => rw [wtAll_cons, wtAll_cons]; omega
theorem wtD_tup (xs : List D) : wtD (.tup xs) = wtAll xs := by simp [wtD, rpy, PyData.weight]
theorem wtD_lst (xs : List D) : wtD (.lst xs) = wtAll xs := by simp [wtD, rpy, PyData.weight]
theorem wtD_str (x : List Nat) : wtD (.str x) = x.length := by simp [wtD, rpy, PyData.weight]
theorem dpAll_le {p : Nat} : ∀ {ds : List D}, PyData.depthAll (rpys ds) ≤ p ↔ ∀ d ∈ ds, dpD d ≤ p
  | [] => by simp [rpys, PyData.depthAll]
  | d :: ds => by
    have := dpAll_le (p := p) (ds := ds)
    simp only [rpys, PyData.depthAll, List.mem_cons, forall_eq_or_imp]
    rw [← this]
    simp only [dpD]
    omega
theorem dpD_tup {p : Nat} (xs : List D) : dpD (.tup xs) ≤ p + 1 ↔ ∀ d ∈ xs, dpD d ≤ p := by
  rw [← dpAll_le]
  simp only [dpD, rpy, PyData.depth]
  omega
theorem dpD_lst {p : Nat} (xs : List D) : dpD (.lst xs) ≤ p + 1 ↔ ∀ d ∈ xs, dpD d ≤ p := by
  rw [← dpAll_le]
  simp only [dpD, rpy, PyData.depth]
  omega
theorem dpD_tup_pos (xs : List D) : ∃ p, dpD (.tup xs) = p + 1 ∧ ∀ d ∈ xs, dpD d ≤ p := by
  exact ⟨PyData.depthAll (rpys xs), by simp only [dpD, rpy, PyData.depth], dpAll_le.mp (Nat.le_refl _)⟩
theorem digits_small {m : Nat} (h : m < 2 ^ 131) : m.repr.length ≤ 131 := nat_repr_length_le (by omega) h
theorem digit_chars (m : Nat) : ∀ c ∈ lit m.repr, c < 128 := fun c hc => by
  unfold lit at hc
  obtain ⟨ch, hch, rfl⟩ := List.mem_map.mp hc
  rw [Nat.toList_repr] at hch
  have := Nat.isDigit_of_mem_toDigits (by omega) (by omega) hch
  unfold Char.isDigit at this
  simp only [Bool.and_eq_true, decide_eq_true_eq] at this
  have h2 := this.2
  have : ch.toNat ≤ 57 := h2
  omega
theorem str_int {i : Int} (h : i.natAbs < 2 ^ 131) : (lit (toString i)).length ≤ 132 ∧ ∀ c ∈ lit (toString i), c < 128 := by
  cases i with
  | ofNat m =>
    have e : toString (Int.ofNat m) = m.repr := rfl
    rw [e]
    refine ⟨?_, digit_chars m⟩
    have := digits_small (m := m) h
    unfold lit
    rw [List.length_map]
    have e2 : m.repr.toList.length = m.repr.length := String.length_toList
    omega
  | negSucc m =>
    have e : toString (Int.negSucc m) = "-" ++ (m + 1).repr := rfl
    have e3 : lit ("-" ++ (m + 1).repr) = 45 :: lit (m + 1).repr := by
      unfold lit
      rw [String.toList_append]
      rfl
    rw [e, e3]
    refine ⟨?_, fun c hc => ?_⟩
    · have := digits_small (m := m + 1) h
      have e2 : (m + 1).repr.toList.length = (m + 1).repr.length := String.length_toList
      unfold lit
      rw [List.length_cons, List.length_map]
      omega
    · rcases List.mem_cons.mp hc with rfl | hc
      · omega
      · exact digit_chars _ c hc
theorem vl_int {n : Nat} {i : Int} (hn : n ≤ 1000) (h : vl n (.int i) = true) : i.natAbs ≤ 10 ^ 39 + n ∧ i.natAbs < 2 ^ 131 := by
  simp only [vl, decide_eq_true_eq] at h
  exact ⟨h, by omega⟩
mutual
theorem vl_rep {n : Nat} (hn : n ≤ 1000) : ∀ {d : D}, vl n d = true → isR d = true ∧ (rpy d).leavesShort 600 = true
  | .non, _ => by simp [isR, rpy, PyData.leavesShort]
  | .bl _, _ => by simp [isR, rpy, PyData.leavesShort]
  | .str x, h => by
    obtain ⟨_, hc⟩ := vl_str h
    simp only [isR, rpy, PyData.leavesShort, true_and, List.all_toArray, List.all_eq_true, decide_eq_true_eq]
    intro c hc'
    have := hc c (by simpa using hc')
    omega
  | .int i, h => by
    obtain ⟨h1, h2⟩ := vl_int hn h
    refine ⟨?_, ?_⟩
    · simp only [isR, decide_eq_true_eq]
      by_cases h0 : i.natAbs = 0
      · rw [h0]; decide
      · have := (Nat.log2_lt h0).mpr h2
        omega
    · simp only [rpy, PyData.leavesShort, PyData.shown, decide_eq_true_eq]
      have e : (toString i : Str) = ⟨(lit (toString i)).toArray⟩ := lit_eq _
      have := (str_int h2).1
      refine decide_eq_true ?_
      show (Str.ofString (toString i)).cps.size ≤ 600
      rw [lit_eq]
      simp only [List.size_toArray]
      omega
  | .tup xs, h => by
    simp only [vl, Bool.and_eq_true] at h
    have := vls_rep hn h.2
    exact ⟨by simpa [isR] using this.1, by simpa [rpy, PyData.leavesShort] using this.2⟩
  | .lst xs, h => by
    simp only [vl, Bool.and_eq_true] at h
    have := vls_rep hn h.2
    exact ⟨by simpa [isR] using this.1, by simpa [rpy, PyData.leavesShort] using this.2⟩
  | .dic kvs, h => by
    simp only [vl] at h
    exact ⟨by simpa [isR] using h, by simp [rpy, PyData.leavesShort, PyData.leavesShortKv]⟩
theorem vls_rep {n : Nat} (hn : n ≤ 1000) : ∀ {ds : List D}, vls n ds = true → areR ds = true ∧ PyData.leavesShortAll 600 (rpys ds) = true
  | [], _ => by simp [areR, rpys, PyData.leavesShortAll]
  | d :: ds, h => by
    simp only [vls, Bool.and_eq_true] at h
    obtain ⟨a, b⟩ := vl_rep hn h.1
    obtain ⟨a2, b2⟩ := vls_rep hn h.2
    exact ⟨by simp [areR, a, a2], by simp [rpys, PyData.leavesShortAll, b, b2]⟩
end
theorem RepOk.of {n N p : Nat} (hn : n ≤ 1000) {d : D} (h : vl n d = true) (hw : wtD d ≤ N) (hp : dpD d ≤ p) : RepOk N p d := ⟨(vl_rep hn h).1, (vl_rep hn h).2, hw, hp⟩
mutual
theorem vl_mono {n m : Nat} (l : n ≤ m) : ∀ {d : D}, vl n d = true → vl m d = true
  | .non, _ => rfl
  | .bl _, _ => rfl
  | .str x, h => by simp only [vl, Bool.and_eq_true, decide_eq_true_eq] at h ⊢; exact ⟨by omega, h.2⟩
  | .int i, h => by simp only [vl, decide_eq_true_eq] at h ⊢; omega
  | .tup xs, h => by simp only [vl, Bool.and_eq_true, decide_eq_true_eq] at h ⊢; exact ⟨by omega, vls_mono l h.2⟩
  | .lst xs, h => by simp only [vl, Bool.and_eq_true, decide_eq_true_eq] at h ⊢; exact ⟨by omega, vls_mono l h.2⟩
  | .dic kvs, h => h
theorem vls_mono {n m : Nat} (l : n ≤ m) : ∀ {ds : List D}, vls n ds = true → vls m ds = true
  | [], _ => rfl
  | d :: ds, h => by
    simp only [vls, Bool.and_eq_true] at h ⊢
    exact ⟨vl_mono l h.1, vls_mono l h.2⟩
end
theorem vl_tupI {n : Nat} {xs : List D} (hl : xs.length ≤ n) (h : ∀ d ∈ xs, vl n d = true) : vl n (.tup xs) = true := by
  simp only [vl, Bool.and_eq_true, decide_eq_true_eq]
  exact ⟨hl, vls_mem.mpr h⟩
theorem vl_lstI {n : Nat} {xs : List D} (hl : xs.length ≤ n) (h : ∀ d ∈ xs, vl n d = true) : vl n (.lst xs) = true := by
  simp only [vl, Bool.and_eq_true, decide_eq_true_eq]
  exact ⟨hl, vls_mem.mpr h⟩
theorem vl_strI {n : Nat} {x : List Nat} (hl : x.length ≤ n) (h : ∀ c ∈ x, c < 128) : vl n (.str x) = true := by
  simp only [vl, Bool.and_eq_true, decide_eq_true_eq, List.all_eq_true]
  exact ⟨hl, h⟩
theorem cut_both {α : Type} (xs : List α) (i j : Nat) : cutD xs (some (i : Int)) (some (j : Int)) = (xs.drop (min i xs.length)).take (min j xs.length - min i xs.length) := by
  unfold cutD
  rw [HT.sIx_nat, HT.sIx_nat]
end TL
end
section
set_option maxRecDepth 100000
set_option maxHeartbeats 0
/-! K82X: presses drawn, values bent. -/
namespace K82
open PySem PySem.Spec PyProof.Rows L2 TL
open He (ga ma fAd)
/-- d' is d with something otherwise -/
structure Bent (n : Nat) (d d' : D) : Prop where
  v : vl (n + 2) d' = true
  w : wtD d' ≤ 2 * wtD d + 200
  p : dpD d' ≤ dpD d + 2
section
variable {w : World} {K : PySem.W.Frag} {mg : Str → Option Value} {base : Heap} {M : Mp} {Q : DQ}
theorem t_law_presses (c : E82 w K mg base) {v : LW} (ok : LawW v) {a l : Addr} {k : Dk} (hn : l ≠ a) {n : Nat} (kn : DkN k n) (hd : n < 900000)
    (h : ∀ ts k', ts ≠ [] → ts.length ≤ 6 → (∀ t ∈ ts, pressT v.lifts.length t = true ∧ t.length ≤ 4) → DkN k' (n + 40) → Q (.tup (ts.map D.str)) (dkM a l k' M)) :
    TFn P82 w K mg base 3 (ga K "_law_presses") (fdOf K ("_law_presses", none)) ["_law_deck_here", "_law_w"] [.ref a, wD v] (dkM a l k M) Q := by
  refine TFn.of c.f__law_presses s__law_presses rfl fun cdv A outer s H F hr => ?_
  have hs := sizeLine_eq
  have hr1 := hr.mono (j := 1) (by omega)
  have hu1 : (A.deeper (envOfC "_law_presses" q__law_presses s.heap.objs.size (ga K "_law_presses") cdv)).units + 1 < cLine := Nat.lt_of_le_of_lt (Nat.add_le_add_left (by omega) _) hr.room.units
  have l4 := ok.l4
  refine .cons <| .par 2 3 rfl s__law_presses.nd <| .cons <| .slice <| .str <| .none <| .some <| .callB c.n_len rfl <| .cons <| .ix <| .var 1 rfl <| .str <| VI.get hu1 (sk_str _) w_look3 <| .nil <| VC.len (n := v.lifts.length) (by simp [lenD]) ⟨_, rfl, VS.str (by rw [alpha_len]; omega) ?_⟩
  rw [cut_take]
  refine .cons <| .listM <| .nil ⟨by show 0 ≤ sizeLine; decide, fun p hp => .nil ⟨_, _, rfl, ?_⟩⟩
  obtain ⟨pa, pl, hp⟩ := dk_none hp
  rw [dk_mset pa pl]
  refine .cons <| .for (L2.passes_of rfl) rfl ?_
  refine WI.range1 c.n_range <| .bin <| .int <| .call hr1 c.g__law_draw c.f__law_draw.kp c.b__law_draw <| .cons <| .var 0 rfl <| .cons <| .int <| .nil <| t_draw c hn (by decide) (by decide) kn (by omega) fun x k1 x0 x1 kn1 => VO.add ⟨_, rfl, by omega, by omega, ?_⟩
  obtain ⟨m, rfl⟩ := Int.eq_ofNat_of_zero_le x0
  have em : (1 + (m : Int)).toNat = m + 1 := by omega
  rw [em]
  have m5 : m ≤ 5 := by omega
  unfold rng
  refine ForT.map (fun (i : Nat) => D.int (0 + (i : Int))) (fun pre ρ M' => (∃ x4, ρ = [some (.ref a), some (wD v), some (.str (alpha.take v.lifts.length)), some (.ref p), x4, none]) ∧ ∃ (ts : List (List Nat)) (k' : Dk), ts.length = pre.length ∧ (∀ t ∈ ts, pressT v.lifts.length t = true ∧ t.length ≤ 4) ∧ DkN k' (n + 1 + 4 * pre.length) ∧ M' = dkM a l k' (mset M p (.lst (ts.map D.str)))) ?_ ?_ ⟨⟨_, rfl⟩, [], k1, rfl, by simp, kn1, rfl⟩
  · rintro pre i post ρ M' e ⟨⟨x4, rfl⟩, ts, k', tl, tp, kn', rfl⟩
    have hpl : pre.length < m + 1 := by
      have := congrArg List.length e
      simp at this; omega
    refine .nameN 4 s__law_presses.nd ?_
    have atp : ∀ k', dkM a l k' (mset M p (.lst (ts.map D.str))) p = some (.lst (ts.map D.str)) := fun k' => by rw [dk_else pa pl, mset_same]
    refine .one <| .expr <| .bm PySem.F.plainAttrs_list PySem.F.slot_list_append PySem.F.type_list_append <| .var 3 rfl ⟨.lstM (atp _), .cons <| .bm PySem.F.plainAttrs_str PySem.F.slot_str_join PySem.F.type_str_join <| .str ⟨.str, .cons ?_⟩⟩
    refine WE.lc1 5 [("_law_sign", 5)] rfl s__law_presses.nd (show BlkOk n__law_presses q__law_presses _ _ from ⟨rfl, by decide +kernel, by decide +kernel, by decide +kernel, by decide +kernel⟩) ?_
    refine WI.str <| .var 2 rfl ⟨_, rfl, ?_⟩
    have al : (alpha.take v.lifts.length).length ≤ 4 := by rw [List.length_take]; omega
    refine CompT.stepIf (fun c => D.str [c]) (fun pr acc M' => ∃ (xs : List Nat) (k' : Dk), acc = xs.map sgD ∧ xs.Sublist pr ∧ DkN k' (n + 1 + 4 * pre.length + pr.length) ∧ M' = dkM a l k' (mset M p (.lst (ts.map D.str)))) ?_ (by omega) ?_ ⟨[], k', rfl, by simp, kn', rfl⟩
    · rintro pr y post acc M' e2 ⟨xs, k', rfl, sl, kn', rfl⟩
      have hpr : pr.length < 4 := by
        have := congrArg List.length e2
        rw [List.length_append, List.length_cons] at this
        omega
      refine ⟨_, rfl, fun b M1 => ∃ k', DkN k' (n + 1 + 4 * pre.length + pr.length + 1) ∧ M1 = dkM a l k' (mset M p (.lst (ts.map D.str))), fun s H C cl fp => ?_, ?_, ?_⟩
      · exact .cmp <| .call hr1 c.g__law_draw c.f__law_draw.kp c.b__law_draw <| .cons <| .var 0 rfl <| .cons <| .int <| .nil <| t_draw c hn (by decide) (by decide) kn' (by omega) fun v k4 v0 v1 kn4 => .int <| VO.eqI ⟨_, rfl, k4, kn4, rfl⟩
      · rintro M1 ⟨k4, kn4, rfl⟩
        exact ⟨xs, k4, rfl, sl.trans (List.sublist_append_left ..), by rw [List.length_append]; exact kn4, rfl⟩
      · rintro M1 ⟨k4, kn4, rfl⟩
        exact fun s H C cl fp => .var 5 rfl ⟨xs ++ [y], k4, by rw [List.map_append]; rfl, sl.append (List.Sublist.refl _), by rw [List.length_append]; exact kn4, rfl⟩
    · rintro acc M' ⟨xs, k4, rfl, sl, kn4, rfl⟩
      have xl : xs.length ≤ 4 := Nat.le_trans sl.length_le al
      have ej : xs.map sgD = (xs.map fun c => [c]).map D.str := by rw [List.map_map]; rfl
      rw [ej]
      refine .nil <| VM.joinL (by rw [sum_ones]; omega) <| .nil <| VM.append (atp _) (by rw [List.length_map]; omega) ⟨⟨_, rfl⟩, ts ++ [xs], k4, by simp [tl], fun t ht => ?_, kn4.mono (by rw [List.length_append, List.length_singleton]; omega), ?_⟩
      · rcases List.mem_append.mp ht with ht | ht
        · exact tp t ht
        · rw [List.mem_singleton.mp ht]
          exact ⟨sublist_press (by omega) sl, xl⟩
      · rw [flat_signs, dk_mset pa pl, mset_mset, List.map_append]
        rfl
  · rintro ρ M' ⟨⟨x4, rfl⟩, ts, k', tl, tp, kn', rfl⟩
    rw [List.length_range] at tl kn'
    refine ⟨_, Le.refl _, .one <| .ret <| .drop p <| .callTy c.n_tuple rfl <| .cons <| .var 3 rfl <| .nil <| VC.tupleM (by rw [dk_else pa pl, mset_same]) ?_⟩
    rw [dk_mdel pa pl, mdel_mset hp]
    exact h ts k' (by intro e; rw [e] at tl; simp at tl) (by omega) tp (kn'.mono (by omega))
end
end K82
end
section
set_option maxRecDepth 100000
set_option maxHeartbeats 0
/-! K82Y: values bent. -/
namespace K82
open PySem PySem.Spec PyProof.Rows L2 TL
open He (ga ma fAd)
theorem _root_.TL.WE.dic0 {X : Cx} {ρ : En} {M : Mp} {Q : DQ} {pos : Pos} (h : Q (.dic []) M) : WE X (.Dict [] [] pos) ρ M Q :=
  .pe pe_dnewK fun σ H F S => fun p hp => ⟨upd F p (.dK []), M, _, Stp.new S.good hp, .dic upd_same .nil, h⟩
def oddL : List D := [.non, .bl true, .bl false, .int 0, .int 1, .int (-1), .int (10 ^ 39), .str (lit ""), .str (lit "d"), .str (lit "l"), .str (lit "x"), .tup [], .lst [], .dic [], .tup [.int 0], .tup [.str (lit "end"), .int 0], .tup [.str (lit "pick"), .int 1], .tup [.tup []]]
theorem odd_ok : ∀ d ∈ oddL, vl 140 d = true ∧ wtD d ≤ 200 ∧ dpD d ≤ 2 := by
  have : (oddL.all fun d => vl 140 d && decide (wtD d ≤ 200) && decide (dpD d ≤ 2)) = true := by decide +kernel
  intro d hd
  have := List.all_eq_true.mp this d hd
  simp only [Bool.and_eq_true, decide_eq_true_eq] at this
  exact ⟨this.1.1, this.1.2, this.2⟩
theorem bent_odd {n : Nat} (n1 : 140 ≤ n) {d d' : D} (h : d' ∈ oddL) : Bent n d d' := by
  obtain ⟨a, b, c⟩ := odd_ok d' h
  exact ⟨vl_mono (by omega) a, by omega, by omega⟩
theorem bent_str {n : Nat} {t x : List Nat} (h1 : x.length ≤ t.length + 1) (hv : vl n (.str t) = true) (hx : ∀ c ∈ x, c < 128) : Bent n (.str t) (.str x) := by
  obtain ⟨tl, tc⟩ := vl_str hv
  exact ⟨vl_strI (by omega) hx, by rw [wtD_str, wtD_str]; omega, by simp [dpD, rpy, PyData.depth]⟩
theorem bent_seq {n : Nat} {xs ys : List D} (hv : vl n (.tup xs) = true) (hl : ys.length ≤ xs.length + 1) (hm : ∀ y ∈ ys, y ∈ xs) (hw : wtAll ys ≤ 2 * wtAll xs) : Bent n (.tup xs) (.tup ys) := by
  obtain ⟨xl, xv⟩ := vl_tup hv
  obtain ⟨p, e, hp⟩ := dpD_tup_pos xs
  refine ⟨vl_tupI (by omega) fun y hy => vl_mono (by omega) (xv y (hm y hy)), by rw [wtD_tup, wtD_tup]; omega, ?_⟩
  have : dpD (.tup ys) ≤ p + 1 := (dpD_tup ys).mpr fun y hy => hp y (hm y hy)
  omega
section
variable {w : World} {K : PySem.W.Frag} {mg : Str → Option Value} {base : Heap} {M : Mp}
theorem t_law_bent (c : E82 w K mg base) {a l : Addr} (hn : l ≠ a) {n : Nat} (n1 : 140 ≤ n) (n2 : n ≤ 900) (deep : Nat) : ∀ {d : D} {k : Dk} {m : Nat} {Q : DQ}, vl n d = true → DkN k m → m + 6 * (deep + 1) < 900000 → (∀ d' k', Bent n d d' → DkN k' (m + 6 * (deep + 1)) → Q d' (dkM a l k' M)) →
    TFn P82 w K mg base (4 + deep) (ga K "_law_bent") (fdOf K ("_law_bent", none)) ["_law_deck_here", "_law_it", "_law_deep"] [.ref a, d, .int (deep : Int)] (dkM a l k M) Q := by
  induction deep using Nat.strongRecOn with
  | ind deep ih =>
  intro d k m Q hv kn hd h
  refine (TFn.of c.f__law_bent s__law_bent rfl fun cdv A outer s H F hr => ?_ : TFn P82 w K mg base ((3 + deep) + 1) _ _ _ _ _ _).mono (by omega)
  have hs := sizeLine_eq
  have hr1 := hr.mono (j := 1) (by omega)
  have hr2 := hr.mono (j := 2) (by omega)
  have hu0 : (A.deeper (envOfC "_law_bent" q__law_bent s.heap.objs.size (ga K "_law_bent") cdv)).units < cLine := Nat.lt_of_le_of_lt (Nat.le_add_right _ 64) hr.room.units
  obtain ⟨ty, kd⟩ := vl_ty hv
  refine .cut (fun ρ' M' => ρ' = [some (.ref a), some d, some (.int (deep : Int)), none, none, none, none] ∧ ∃ k1, DkN k1 (m + 1) ∧ M' = dkM a l k1 M) (.ite <| .ww <| .and <| .val <| .callB c.n_isinstance rfl <| .cons <| .var 1 rfl <| .cons <| .ty c.n_tuple rfl <| .nil <| VC.isi kd.ty kd.tup ⟨_, rfl, ?_⟩) ?_
  · cases d with
    | tup xs =>
      obtain ⟨xl, xv⟩ := vl_tup hv
      refine ⟨fun z => (nomatch z), fun _ => .and <| .cmp <| .var 1 rfl <| .tuple <| .nil ⟨by decide, VO.neT0 hu0 ⟨_, rfl, ?_⟩⟩⟩
      by_cases h0 : xs = []
      · rw [decide_eq_true h0]
        exact ⟨fun _ => ⟨fun z => (nomatch z), fun _ => .done ⟨rfl, k, kn.mono (by omega), rfl⟩⟩, fun z => nomatch z⟩
      rw [decide_eq_false h0]
      refine ⟨fun z => (nomatch z), fun _ => .and <| .cmp <| .var 2 rfl <| .int <| VO.gt ⟨_, rfl, ?_⟩⟩
      by_cases hz : (0 : Int) < (deep : Int)
      case neg =>
        rw [decide_eq_false hz]
        exact ⟨fun _ => ⟨fun z => (nomatch z), fun _ => .done ⟨rfl, k, kn.mono (by omega), rfl⟩⟩, fun z => nomatch z⟩
      rw [decide_eq_true hz]
      refine ⟨fun z => (nomatch z), fun _ => .and1 <| .cmp <| .call hr1 c.g__law_draw c.f__law_draw.kp c.b__law_draw <| .cons <| .var 0 rfl <| .cons <| .int <| .nil <| t_draw c hn (by decide) (by decide) kn (by omega) fun x k1 x0 x1 kn1 => .int <| VO.gt ⟨_, rfl, fun _ => ?_, fun _ => .done ⟨rfl, k1, kn1, rfl⟩⟩⟩
      have xp : 0 < xs.length := List.length_pos_iff.mpr h0
      refine .cons <| .par 3 4 rfl s__law_bent.nd <| .cons <| .call hr1 c.g__law_draw c.f__law_draw.kp c.b__law_draw <| .cons <| .var 0 rfl <| .cons <| .callB c.n_len rfl <| .cons <| .var 1 rfl <| .nil <| VC.len (n := xs.length) (by simp [lenD]) <| .nil <| t_draw c hn (by omega) (by omega) kn1 (by omega) fun i k2 i0 i1 kn2 => ?_
      obtain ⟨i, rfl⟩ := Int.eq_ofNat_of_zero_le i0
      have hi : i < xs.length := by omega
      refine .cons <| .call hr1 c.g__law_draw c.f__law_draw.kp c.b__law_draw <| .cons <| .var 0 rfl <| .cons <| .int <| .nil <| t_draw c hn (by decide) (by decide) kn2 (by omega) fun y k3 y0 y1 kn3 => .nil ⟨_, _, rfl, ?_⟩
      have e1 : ((i : Int) + 1) = ((i + 1 : Nat) : Int) := by omega
      have e2 : ((i : Int) + 2) = ((i + 2 : Nat) : Int) := by omega
      have kn4 : DkN k3 (m + 6 * (deep + 1)) := kn3.mono (by omega)
      have mt : ∀ j, ∀ y ∈ xs.take j, y ∈ xs := fun j y h => List.mem_of_mem_take h
      have md : ∀ j, ∀ y ∈ xs.drop j, y ∈ xs := fun j y h => List.mem_of_mem_drop h
      have sp := fun j => wtAll_split xs j
      -- one left out
      refine .cons <| .ite <| .cmp <| .var 4 rfl <| .int <| VO.eqI ⟨_, rfl, fun _ => ?_, fun _ => .done ?_⟩
      · refine .one <| .ret <| .bin <| .slice <| .var 1 rfl <| .none <| .some <| .var 3 rfl ⟨_, rfl, VS.tup ?_⟩
        rw [cut_take]
        refine .slice <| .var 1 rfl <| .some <| .bin <| .var 3 rfl <| .int <| VO.add ⟨_, rfl, .none <| VS.tup ?_⟩
        rw [e1, cut_drop]
        refine VO.catT (by rw [List.length_take, List.length_drop]; omega) (h _ _ (bent_seq hv (by rw [List.length_append, List.length_take, List.length_drop]; omega) (fun y hy => (List.mem_append.mp hy).elim (mt _ y) (md _ y)) ?_) kn4)
        rw [wtAll_app]
        have := sp i
        have := sp (i + 1)
        omega
      -- one twice
      refine .cons <| .ite <| .cmp <| .var 4 rfl <| .int <| VO.eqI ⟨_, rfl, fun _ => ?_, fun _ => .done ?_⟩
      · refine .one <| .ret <| .bin <| .slice <| .var 1 rfl <| .none <| .some <| .bin <| .var 3 rfl <| .int <| VO.add ⟨_, rfl, VS.tup ?_⟩
        rw [e1, cut_take]
        refine .slice <| .var 1 rfl <| .some <| .var 3 rfl ⟨_, rfl, .none <| VS.tup ?_⟩
        rw [cut_drop]
        refine VO.catT (by rw [List.length_take, List.length_drop]; omega) (h _ _ (bent_seq hv (by rw [List.length_append, List.length_take, List.length_drop]; omega) (fun y hy => (List.mem_append.mp hy).elim (mt _ y) (md _ y)) ?_) kn4)
        rw [wtAll_app]
        have := sp i
        have := sp (i + 1)
        omega
      -- two exchanged
      refine .cons <| .ite <| .cmp <| .var 4 rfl <| .int <| VO.eqI ⟨_, rfl, fun _ => ?_, fun _ => .done ?_⟩
      · refine .one <| .ret <| .bin <| .bin <| .slice <| .var 1 rfl <| .none <| .some <| .var 3 rfl ⟨_, rfl, VS.tup ?_⟩
        rw [cut_take]
        refine WE.revT <| .slice <| .var 1 rfl <| .some <| .var 3 rfl ⟨_, rfl, .some <| .bin <| .var 3 rfl <| .int <| VO.add ⟨_, rfl, VS.tup ⟨_, rfl, ?_⟩⟩⟩
        rw [e2, cut_both]
        have hmid : ((xs.drop (min i xs.length)).take (min (i + 2) xs.length - min i xs.length)).length ≤ 2 := by rw [List.length_take, List.length_drop]; omega
        have hmid2 : i + ((xs.drop (min i xs.length)).take (min (i + 2) xs.length - min i xs.length)).length + (xs.length - (i + 2)) ≤ xs.length := by rw [List.length_take, List.length_drop]; omega
        have wmid : wtAll ((xs.drop (min i xs.length)).take (min (i + 2) xs.length - min i xs.length)) ≤ wtAll xs := wtAll_sub ((List.take_sublist ..).trans (List.drop_sublist ..))
        have mmid : ∀ y ∈ (xs.drop (min i xs.length)).take (min (i + 2) xs.length - min i xs.length), y ∈ xs := fun y hy => List.mem_of_mem_drop (List.mem_of_mem_take hy)
        generalize (xs.drop (min i xs.length)).take (min (i + 2) xs.length - min i xs.length) = mid at *
        refine VO.catT (by rw [List.length_take, List.length_reverse]; omega) ?_
        refine .slice <| .var 1 rfl <| .some <| .bin <| .var 3 rfl <| .int <| VO.add ⟨_, rfl, .none <| VS.tup ?_⟩
        rw [e2, cut_drop]
        refine VO.catT (by rw [List.length_append, List.length_take, List.length_reverse, List.length_drop]; omega) (h _ _ (bent_seq hv (by rw [List.length_append, List.length_append, List.length_take, List.length_reverse, List.length_drop]; omega) (fun y hy => ?_) ?_) kn4)
        · rcases List.mem_append.mp hy with hy | hy
          · rcases List.mem_append.mp hy with hy | hy
            · exact mt _ y hy
            · exact mmid y (List.mem_reverse.mp hy)
          · exact md _ y hy
        · rw [wtAll_app, wtAll_app, wtAll_rev]
          have := sp i
          have := sp (i + 2)
          have h7 : wtAll (xs.drop (i + 2)) ≤ wtAll (xs.drop i) := by
            rw [show i + 2 = i + 2 from rfl, ← List.drop_drop]
            exact wtAll_sub (List.drop_sublist ..)
          omega
      -- a list
      refine .cons <| .ite <| .cmp <| .var 4 rfl <| .int <| VO.eqI ⟨_, rfl, fun _ => ?_, fun _ => .done ?_⟩
      · refine .one <| .ret <| .callTy c.n_list rfl <| .cons <| .var 1 rfl <| .nil <| VC.listT (h _ _ ⟨vl_lstI (by omega) fun y hy => vl_mono (by omega) (xv y hy), by rw [wtD_lst, wtD_tup]; omega, ?_⟩ kn4)
        have e9 : dpD (.lst xs) = dpD (.tup xs) := by simp [dpD, rpy, PyData.depth]
        rw [e9]; omega
      -- one bent
      obtain ⟨dp, rfl⟩ : ∃ dp, deep = dp + 1 := ⟨deep - 1, by omega⟩
      have hx := List.getElem?_eq_getElem hi
      have mx : xs[i] ∈ xs := List.getElem_mem hi
      refine .one <| .ret <| .bin <| .bin <| .slice <| .var 1 rfl <| .none <| .some <| .var 3 rfl ⟨_, rfl, VS.tup ?_⟩
      rw [cut_take]
      refine .tuple <| .cons <| .call (hr.mono (j := 4 + dp) (by omega)) c.g__law_bent c.f__law_bent.kp c.b__law_bent <| .cons <| .var 0 rfl <| .cons <| .ix <| .var 1 rfl <| .var 3 rfl <| VI.tup (d := xs[i]) (by rw [TL.atI_nat]; exact hx) <| .cons <| .bin <| .var 2 rfl <| .int <| VO.sub ?_
      rw [show (((dp + 1 : Nat) : Int) - 1) = (dp : Int) by omega]
      refine .nil <| ih dp (by omega) (xv _ mx) kn3 (by omega) fun d' k5 bd kn5 => .nil ⟨by show 1 ≤ sizeLine; decide, VO.catT (by rw [List.length_take]; simp; omega) ?_⟩
      refine .slice <| .var 1 rfl <| .some <| .bin <| .var 3 rfl <| .int <| VO.add ⟨_, rfl, .none <| VS.tup ?_⟩
      rw [e1, cut_drop]
      have e10 : xs.drop i = xs[i] :: xs.drop (i + 1) := List.drop_eq_getElem_cons hi
      have w10 : wtAll xs = wtAll (xs.take i) + (wtD xs[i] + 1 + wtAll (xs.drop (i + 1))) := by rw [← wtAll_cons, ← e10, sp]
      have bw := bd.w
      refine VO.catT (by rw [List.length_append, List.length_take, List.length_drop]; simp; omega) (h _ _ ⟨vl_tupI (by rw [List.length_append, List.length_append, List.length_take, List.length_drop]; simp; omega) fun y hy => ?_, ?_, ?_⟩ (kn5.mono (by omega)))
      · rcases List.mem_append.mp hy with hy | hy
        · rcases List.mem_append.mp hy with hy | hy
          · exact vl_mono (by omega) (xv y (mt _ y hy))
          · rw [List.mem_singleton.mp hy]; exact bd.v
        · exact vl_mono (by omega) (xv y (md _ y hy))
      · rw [wtD_tup, wtD_tup, wtAll_app, wtAll_app, wtAll_cons, wtAll_nil]
        omega
      · obtain ⟨p, ep, hp⟩ := dpD_tup_pos xs
        have bp := bd.p
        have hpx := hp _ mx
        rw [ep, show p + 1 + 2 = (p + 2) + 1 by omega, dpD_tup]
        intro y hy
        rcases List.mem_append.mp hy with hy | hy
        · rcases List.mem_append.mp hy with hy | hy
          · have := hp y (mt _ y hy); omega
          · rw [List.mem_singleton.mp hy]; omega
        · have := hp y (md _ y hy); omega
    | _ => exact ⟨fun _ => ⟨fun z => (nomatch z), fun _ => .done ⟨rfl, k, kn.mono (by omega), rfl⟩⟩, fun z => nomatch z⟩
  rintro ρ' M' ⟨rfl, k1, kn1, rfl⟩
  -- a number
  refine .cut (fun ρ' M' => ρ' = [some (.ref a), some d, some (.int (deep : Int)), none, none, none, none] ∧ ∃ k2, DkN k2 (m + 2) ∧ M' = dkM a l k2 M) (.ite <| .ww <| .and <| .val <| .callB c.n_isinstance rfl <| .cons <| .var 1 rfl <| .cons <| .ty c.n_int rfl <| .nil <| VC.isi kd.ty kd.int ⟨_, rfl, ?_⟩) ?_
  · cases d with
    | int i =>
      refine ⟨fun z => (nomatch z), fun _ => .and <| .not <| .val <| .callB c.n_isinstance rfl <| .cons <| .var 1 rfl <| .cons <| .ty c.n_bool rfl <| .nil <| VC.isi kd.ty kd.bool ⟨_, rfl, fun z => (nomatch z), fun _ => ?_⟩⟩
      refine .and1 <| .cmp <| .call hr1 c.g__law_draw c.f__law_draw.kp c.b__law_draw <| .cons <| .var 0 rfl <| .cons <| .int <| .nil <| t_draw c hn (by decide) (by decide) kn1 (by omega) fun x k2 x0 x1 kn2 => .int <| VO.gt ⟨_, rfl, fun _ => ?_, fun _ => .done ⟨rfl, k2, kn2, rfl⟩⟩
      obtain ⟨i1, i2⟩ := vl_int (by omega) hv
      have hlog : i.natAbs.log2 < 1920 := by
        by_cases h0 : i.natAbs = 0
        · rw [h0]; decide
        · have := (Nat.log2_lt h0).mpr i2
          omega
      refine .one <| .ret <| .call hr2 c.g__law_pick c.f__law_pick.kp c.b__law_pick <| .cons <| .var 0 rfl <| .cons <| .list <| .cons <| .bin <| .var 1 rfl <| .int <| VO.add <| .cons <| .bin <| .var 1 rfl <| .int <| VO.sub <| .cons <| .bin <| .var 1 rfl <| .int <| VO.add <| .cons <| .cmp <| .var 1 rfl <| .int <| VO.eqI <| .cons <| .callTy c.n_str rfl <| .cons <| .var 1 rfl <| .nil <| VC.strI hlog <| .nil ⟨by show 5 ≤ sizeLine; decide, .nil ?_⟩
      refine t_pick c hn kn2 (by omega) (.lst _) (by simp) (by simp) fun d' hd' k3 kn3 => h d' k3 ?_ (kn3.mono (by omega))
      have wi : ∀ j : Int, j.natAbs < 2 ^ 132 → wtD (.int j) ≤ 132 := fun j hj => by
        simp only [wtD, rpy, PyData.weight]
        split
        · omega
        · rename_i hne
          have h0 : j.natAbs ≠ 0 := by
            intro e
            apply hne
            have : j = 0 := by omega
            rw [this]; rfl
          have := (Nat.log2_lt h0).mpr hj
          omega
      have di : ∀ j : Int, dpD (.int j) ≤ 0 := fun j => by simp [dpD, rpy, PyData.depth]
      have bi : ∀ j : Int, j.natAbs ≤ i.natAbs + 2 → Bent n (.int i) (.int j) := fun j hj => ⟨by simp only [vl, decide_eq_true_eq]; omega, by have := wi j (by omega); omega, by have := di j; omega⟩
      simp only [List.mem_cons, List.not_mem_nil, or_false] at hd'
      rcases hd' with rfl | rfl | rfl | rfl | rfl
      · exact bi _ (by omega)
      · exact bi _ (by omega)
      · exact bi _ (by omega)
      · exact ⟨rfl, by simp [wtD, rpy, PyData.weight], by simp [dpD, rpy, PyData.depth]⟩
      · obtain ⟨s1, s2⟩ := str_int i2
        exact ⟨vl_strI (by omega) s2, by rw [wtD_str]; omega, by simp [dpD, rpy, PyData.depth]⟩
    | bl b => exact ⟨fun z => (nomatch z), fun _ => .and <| .not <| .val <| .callB c.n_isinstance rfl <| .cons <| .var 1 rfl <| .cons <| .ty c.n_bool rfl <| .nil <| VC.isi kd.ty kd.bool ⟨_, rfl, fun _ => ⟨fun z => (nomatch z), fun _ => .done ⟨rfl, k1, kn1.mono (by omega), rfl⟩⟩, fun z => nomatch z⟩⟩
    | _ => exact ⟨fun _ => ⟨fun z => (nomatch z), fun _ => .done ⟨rfl, k1, kn1.mono (by omega), rfl⟩⟩, fun z => nomatch z⟩
  rintro ρ' M' ⟨rfl, k2, kn2, rfl⟩
  -- a text
  refine .cut (fun ρ' M' => ρ' = [some (.ref a), some d, some (.int (deep : Int)), none, none, none, none] ∧ ∃ k3, DkN k3 (m + 3) ∧ M' = dkM a l k3 M) (.ite <| .ww <| .and <| .val <| .callB c.n_isinstance rfl <| .cons <| .var 1 rfl <| .cons <| .ty c.n_str rfl <| .nil <| VC.isi kd.ty kd.str ⟨_, rfl, ?_⟩) ?_
  · cases d with
    | str t =>
      obtain ⟨tl, hc⟩ := vl_str hv
      refine ⟨fun z => (nomatch z), fun _ => .and1 <| .cmp <| .call hr1 c.g__law_draw c.f__law_draw.kp c.b__law_draw <| .cons <| .var 0 rfl <| .cons <| .int <| .nil <| t_draw c hn (by decide) (by decide) kn2 (by omega) fun x k3 x0 x1 kn3 => .int <| VO.gt ⟨_, rfl, fun _ => ?_, fun _ => .done ⟨rfl, k3, kn3, rfl⟩⟩⟩
      refine .cons <| .setN 3 s__law_bent.nd <| .call hr1 c.g__law_draw c.f__law_draw.kp c.b__law_draw <| .cons <| .var 0 rfl <| .cons <| .bin <| .callB c.n_len rfl <| .cons <| .var 1 rfl <| .nil <| VC.len (n := t.length) (by simp [lenD]; omega) <| .int <| VO.add <| .nil <| t_draw c hn (by omega) (by omega) kn3 (by omega) fun p k4 p0 p1 kn4 => ?_
      obtain ⟨p, rfl⟩ := Int.eq_ofNat_of_zero_le p0
      have cat : ∀ {x y : List Nat}, (∀ c ∈ x, c < 128) → (∀ c ∈ y, c < 128) → ∀ c ∈ x ++ y, c < 128 := fun hx hy c hc => (List.mem_append.mp hc).elim (hx c) (hy c)
      have htk : ∀ n, ∀ c ∈ t.take n, c < 128 := fun n c h => hc c (List.mem_of_mem_take h)
      have hdr : ∀ n, ∀ c ∈ t.drop n, c < 128 := fun n c h => hc c (List.mem_of_mem_drop h)
      have ltk : ∀ n, (t.take n).length ≤ n ∧ (t.take n).length ≤ t.length := fun n => by rw [List.length_take]; omega
      have ldr : ∀ n, (t.drop n).length = t.length - n := fun n => List.length_drop
      have pe : ((p : Int) + 1) = ((p + 1 : Nat) : Int) := by omega
      refine .cons <| .setN 5 s__law_bent.nd <| .list <| .cons <| .bin <| .slice <| .var 1 rfl <| .none <| .some <| .var 3 rfl ⟨_, rfl, VS.str (by omega) ?_⟩
      rw [cut_take]
      refine .slice <| .var 1 rfl <| .some <| .bin <| .var 3 rfl <| .int <| VO.add ⟨_, rfl, .none <| VS.str (by omega) ?_⟩
      rw [pe, cut_drop]
      refine VO.addS (by have := ltk p; have := ldr (p + 1); omega) <| .cons <| .bin <| .var 1 rfl <| .slice <| .var 1 rfl <| .none <| .some <| .int ⟨_, rfl, VS.str (by omega) ?_⟩
      rw [show TL.cutD t none (some 1) = t.take 1 from cut_take t 1]
      refine VO.addS (by have := ltk 1; omega) <| .cons <| WE.revS <| .var 1 rfl ⟨t, rfl, by omega, ?_⟩
      refine .cons <| .bin <| .bin <| .slice <| .var 1 rfl <| .none <| .some <| .var 3 rfl ⟨_, rfl, VS.str (by omega) ?_⟩
      rw [cut_take]
      refine .call hr2 c.g__law_pick c.f__law_pick.kp c.b__law_pick <| .cons <| .var 0 rfl <| .cons <| .str <| .nil <| t_pick c hn kn4 (by omega) (.str _) (by decide +kernel) (by decide +kernel) fun d' hd' k5 kn5 => ?_
      obtain ⟨y, hy, rfl⟩ := List.mem_map.mp hd'
      have hy2 : y < 128 := by
        have : ∀ y ∈ lit "abcdz-", y < 128 := by decide +kernel
        exact this y hy
      refine VO.addS (by have := ltk p; simp at *; omega) <| .slice <| .var 1 rfl <| .some <| .bin <| .var 3 rfl <| .int <| VO.add ⟨_, rfl, .none <| VS.str (by omega) ?_⟩
      rw [pe, cut_drop]
      refine VO.addS (by have := ltk p; have := ldr (p + 1); rw [List.length_append, List.length_singleton]; omega) <| .cons <| .tuple <| .cons <| .var 1 rfl <| .nil ⟨by show 1 ≤ sizeLine; decide, .nil ⟨by show 5 ≤ sizeLine; decide, ?_⟩⟩
      refine .one <| .ret <| .call hr2 c.g__law_pick c.f__law_pick.kp c.b__law_pick <| .cons <| .var 0 rfl <| .cons <| .var 5 rfl <| .nil <| t_pick c hn kn5 (by omega) (.lst _) (by simp) (by simp) fun d' hd' k6 kn6 => h d' k6 ?_ (kn6.mono (by omega))
      have l1 := ltk p
      have l2 := ldr (p + 1)
      have l3 := ltk 1
      simp only [List.mem_cons, List.not_mem_nil, or_false] at hd'
      rcases hd' with rfl | rfl | rfl | rfl | rfl
      · exact bent_str (by rw [List.length_append]; omega) hv (cat (htk _) (hdr _))
      · exact bent_str (by rw [List.length_append]; omega) hv (cat hc (htk _))
      · exact bent_str (by rw [List.length_reverse]; omega) hv (fun c hc' => hc c (List.mem_reverse.mp hc'))
      · exact bent_str (by rw [List.length_append, List.length_append, List.length_singleton]; omega) hv (cat (cat (htk _) (fun c hc' => by rw [List.mem_singleton.mp hc']; exact hy2)) (hdr _))
      · refine ⟨vl_tupI (by show 1 ≤ n + 2; omega) fun y hy => by rw [List.mem_singleton.mp hy]; exact vl_mono (by omega) hv, ?_, ?_⟩
        · rw [wtD_tup, wtAll_cons, wtAll_nil, wtD_str]; omega
        · refine Nat.le_trans ((dpD_tup (p := 0) [.str t]).mpr fun y hy => ?_) (by omega)
          rw [List.mem_singleton.mp hy]
          simp [dpD, rpy, PyData.depth]
    | _ => exact ⟨fun _ => ⟨fun z => (nomatch z), fun _ => .done ⟨rfl, k2, kn2.mono (by omega), rfl⟩⟩, fun z => nomatch z⟩
  rintro ρ' M' ⟨rfl, k3, kn3, rfl⟩
  -- an odd value
  refine .cons <| .setN 6 s__law_bent.nd <| .list <| .cons <| .non <| .cons <| .bl <| .cons <| .bl <| .cons <| .int <| .cons <| .int <| .cons <| .neg <| .int ⟨_, rfl, .cons <| .bin <| .int <| .int <| VO.pow ⟨by decide, by decide, by decide⟩ <| .cons <| .str <| .cons <| .str <| .cons <| .str <| .cons <| .str <| .cons <| .tuple <| .nil ⟨by show 0 ≤ sizeLine; decide, ?_⟩⟩
  refine .cons <| .list <| .nil ⟨by show 0 ≤ sizeLine; decide, .cons <| WE.dic0 ?_⟩
  refine .cons <| .tuple <| .cons <| .int <| .nil ⟨by show 1 ≤ sizeLine; decide, .cons <| .tuple <| .cons <| .str <| .cons <| .int <| .nil ⟨by show 2 ≤ sizeLine; decide, .cons <| .tuple <| .cons <| .str <| .cons <| .int <| .nil ⟨by show 2 ≤ sizeLine; decide, .cons <| .tuple <| .cons <| .tuple <| .nil ⟨by show 0 ≤ sizeLine; decide, .nil ⟨by show 1 ≤ sizeLine; decide, .nil ⟨by show 18 ≤ sizeLine; decide, ?_⟩⟩⟩⟩⟩⟩
  refine .one <| .ret <| .call hr2 c.g__law_pick c.f__law_pick.kp c.b__law_pick <| .cons <| .var 0 rfl <| .cons <| .var 6 rfl <| .nil <| t_pick c hn kn3 (by omega) (.lst _) (by simp) (by simp) fun d' hd' k4 kn4 => h d' k4 (bent_odd n1 ?_) (kn4.mono (by omega))
  exact hd'
end
end K82
end
section
set_option maxRecDepth 100000
set_option maxHeartbeats 0
/-! K82Za: what is told of values. -/
namespace TL
open PySem PySem.Spec PyProof.Rows L2
theorem WEX.fld {X : Cx} {ρ : En} {M : Mp} {Q : DQ} {EX : XDX} {e : Expr} {pos : Pos} {fl : Str} (h : WEX X e ρ M (fun z M1 => ∃ C fs d, z = .ins C fs ∧ Cls X.K C ∧ NoAttr X.K C fl ∧ fs.lookup fl = some d ∧ Q d M1) EX) (hb : attributeBase e fl X.env (eval e X.env) = eval e X.env := by rfl) : WEX X (.Attribute e fl pos) ρ M Q EX := by
  refine ⟨fun pins s σ H F I S tk => ?_⟩
  refine attr_of hb (thn (h.run pins s σ H F I S tk) fun u s1 ⟨v, H1, F1, M1, d, I1, rx, t1, rp, C, fs, d', ed, c, n, l, q⟩ => ?_)
  subst ed
  cases rp with
  | ins hF rF =>
    obtain rfl : u = _ := rx
    obtain ⟨v', l', rp'⟩ := rF.lookup l
    exact getattr_ok I1 (t1.good.sub _ _ hF) c n l' fun u' s2 I2 ru => ⟨v', H1, F1, M1, d', I2, ru, t1, rp', q⟩
end TL
namespace K82
open PySem PySem.Spec PyProof.Rows L2 TL
open He (ga ma fAd)
/-- what is told of a value -/
def toldD (v : LW) (d : D) : D := match faultP v.lifts.length d with
  | none => .tup ((rowsP v (itemsOf d)).map D.str)
  | some i => .lst [.str (lit "bad"), .int i, .bl true]
theorem fault_tupD {m : Nat} {d : D} (h : faultP m d = none) : ∃ xs, d = .tup xs ∧ xs ≠ [] ∧ ∀ y ∈ xs, pressB m y = true := by
  cases d with
  | tup xs =>
    cases xs with
    | nil => cases h
    | cons x xs => exact ⟨_, rfl, by simp, fault_none.mp h⟩
  | _ => cases h
theorem fault_lt {n m : Nat} {d : D} {i : Int} (hv : vl n d = true) (h : faultP m d = some i) : -1 ≤ i ∧ i < (n : Int) + 1 := by
  cases d with
  | tup xs =>
    obtain ⟨xl, _⟩ := vl_tup hv
    cases xs with
    | nil => cases h; omega
    | cons x xs =>
      rw [fault_tup] at h
      cases hf : (x :: xs).findIdx? fun d => !pressB m d with
      | none => rw [hf] at h; cases h
      | some j =>
        rw [hf] at h
        have h : (j : Int) = i := Option.some.inj h
        have := (List.findIdx?_eq_some_iff_getElem.mp hf).1
        omega
  | _ => cases h; omega
theorem rep_small {i : Int} (h1 : -1 ≤ i) (h2 : i < 2000) : RepOk 20 0 (.int i) := by
  have hv : vl 2000 (.int i) = true := by simp only [vl, decide_eq_true_eq]; omega
  have hv2 : vl 1000 (.int i) = true := by simp only [vl, decide_eq_true_eq]; omega
  refine RepOk.of (n := 1000) (by omega) hv2 ?_ (by simp [dpD, rpy, PyData.depth])
  simp only [wtD, rpy, PyData.weight]
  split
  · omega
  · rename_i hne
    have h0 : i.natAbs ≠ 0 := by
      intro e
      apply hne
      have : i = 0 := by omega
      rw [this]; rfl
    have : i.natAbs < 2 ^ 11 := by omega
    have := (Nat.log2_lt h0).mpr this
    omega
theorem told_rep {v : LW} (ok : LawW v) {n : Nat} (hn : n ≤ 1000) {d : D} (hv : vl n d = true) : RepOk 12000 5 (toldD v d) := by
  unfold toldD
  cases hf : faultP v.lifts.length d with
  | none =>
    obtain ⟨xs, rfl, x0, hx⟩ := fault_tupD hf
    obtain ⟨xl, _⟩ := vl_tup hv
    refine (RepOk.tup (n := 9) (p := 0) fun y hy => ?_).mono (by simp only [List.length_map, rowsP, itemsOf]; omega) (by omega)
    obtain ⟨r, hr, rfl⟩ := List.mem_map.mp hy
    obtain ⟨z, _, rfl⟩ := List.mem_map.mp hr
    have e9 := ok.e9
    exact (RepOk.str fun c hc => by rcases pick_signs c hc with rfl | rfl <;> omega).mono (by simp [rowP, pickOf]; omega) (by omega)
  | some i =>
    obtain ⟨h1, h2⟩ := fault_lt hv hf
    refine (RepOk.lst (n := 20) (p := 0) fun x hx => ?_).mono (by simp) (by omega)
    simp only [List.mem_cons, List.not_mem_nil, or_false] at hx
    rcases hx with rfl | rfl | rfl
    · exact (RepOk.str (x := lit "bad") (by decide +kernel)).mono (by decide +kernel) (by omega)
    · exact rep_small h1 (by omega)
    · exact (RepOk.bl true).mono (by omega) (by omega)
section
variable {w : World} {K : PySem.W.Frag} {mg : Str → Option Value} {base : Heap} {M : Mp} {Q : DQ}
theorem E82.k_woven_pressed (c : E82 w K mg base) : KwB (fdOf K ("woven_pressed", none)) ["loom", "presses"] ["presses", "loom"] true := kwB c.f_woven_pressed fun _ _ _ _ _ _ ws hl => match ws, hl with | [_, _], _ => rfl
theorem E82.k_are_presses (c : E82 w K mg base) : KwB (fdOf K ("are_presses", none)) ["loom", "thing"] ["thing", "loom"] true := kwB c.f_are_presses fun _ _ _ _ _ _ ws hl => match ws, hl with | [_, _], _ => rfl
theorem E82.k_bars_by (c : E82 w K mg base) : KwB (fdOf K ("bars_by", none)) ["loom", "presses"] ["presses", "loom"] true := kwB c.f_bars_by fun _ _ _ _ _ _ ws hl => match ws, hl with | [_, _], _ => rfl
theorem E82.k_do_cover (c : E82 w K mg base) : KwB (fdOf K ("do_cover", none)) ["cloth", "thing"] ["thing", "cloth"] true := kwB c.f_do_cover fun _ _ _ _ _ _ ws hl => match ws, hl with | [_, _], _ => rfl
theorem E82.k_is_bar (c : E82 w K mg base) : KwB (fdOf K ("is_bar", none)) ["cloth", "thing"] ["thing", "cloth"] true := kwB c.f_is_bar fun _ _ _ _ _ _ ws hl => match ws, hl with | [_, _], _ => rfl
theorem t_law_told (c : E82 w K mg base) {v : LW} (ok : LawW v) {d : D} {n : Nat} (hv : vl n d = true) (hn : n ≤ 1000) {b : Bool} (h : Q (toldD v d) M) :
    TFn P82 w K mg base 7 (ga K "_law_told") (fdOf K ("_law_told", none)) ["_law_w", "_law_it", "_law_by_name"] [wD v, d, .bl b] M Q := by
  refine TFn.of c.f__law_told s__law_told rfl fun cdv A outer s H F hr => ?_
  have hu1 : (A.deeper (envOfC "_law_told" q__law_told s.heap.objs.size (ga K "_law_told") cdv)).units + 1 < cLine := Nat.lt_of_le_of_lt (Nat.add_le_add_left (by omega) _) hr.room.units
  have call : TFn P82 w K mg base 6 (ga K "woven_pressed") (fdOf K ("woven_pressed", none)) ["loom", "presses"] [loomD K v, d] M (fun x M' => (∃ C fs y, x = .ins C fs ∧ Cls K C ∧ NoAttr K C "picks" ∧ fs.lookup ("picks" : Str) = some y ∧ toldD v d = y) ∧ M' = M) (fun C fs M' => C = ga K "BadPress" ∧ M' = M ∧ ∃ i, fs = [(("number" : Str), .int i)] ∧ toldD v d = .lst [.str (lit "bad"), .int i, .bl true]) := by
    refine t_woven_pressed c ok.ok hv hn (fun hf => ⟨⟨_, _, _, rfl, c.cls_Cloth, c.no_Cloth_picks, by rfl, ?_⟩, rfl⟩) (fun i hf => ⟨rfl, rfl, i, rfl, ?_⟩)
    · unfold toldD; rw [hf]
    · unfold toldD; rw [hf]
  refine .cons <| .par 3 4 rfl s__law_told.nd <| .cons <| .non <| .cons <| WE.make c.mk_Loom (k := 4) (hr.mono (j := 5) (by omega)) c.g_Loom c.b_Loom_init <| .cons <| .ix <| .var 0 rfl <| .str <| VI.get hu1 (sk_str _) w_look1 <| .cons <| .ix <| .var 0 rfl <| .str <| VI.get hu1 (sk_str _) w_look2 <| .cons <| .ix <| .var 0 rfl <| .str <| VI.get hu1 (sk_str _) w_look3 <| .nil fun z hz => t_Loom_init c ok.ok hz <| .nil ⟨_, _, rfl, ?_⟩
  refine .cons <| WS.tryAs 5 ⟨rfl, by decide, .inl c.g_BadPress⟩ s__law_told.nd (EX := fun C fs ρ' M' => ρ' = [some (wD v), some d, some (.bl b), some .non, some (loomD K v), none] ∧ C = ga K "BadPress" ∧ M' = M ∧ ∃ i, fs = [(("number" : Str), .int i)] ∧ toldD v d = .lst [.str (lit "bad"), .int i, .bl true]) (fun pn xe => ?_) ?_
  · refine .one <| .set 3 ?_ s__law_told.nd
    refine .ife <| .val <| .var 2 rfl ⟨b, rfl, fun _ => ?_, fun _ => ?_⟩
    · refine .fld <| WEX.callKw true (hr.mono (j := 6) (by omega)) c.g_woven_pressed c.f_woven_pressed.kp c.k_woven_pressed rfl (fun C fs M' q => ⟨rfl, q⟩) <| .cons <| .var 1 rfl <| .cons <| .var 4 rfl <| .nil <| call.imp ?_
      rintro x M' ⟨⟨C, fs, y, rfl, h1, h2, h3, e⟩, rfl⟩
      refine ⟨C, fs, y, rfl, h1, h2, h3, .one <| .ret <| .var 3 rfl ?_⟩
      rw [← e]; exact h
    · refine .fld <| WEX.call (hr.mono (j := 6) (by omega)) c.g_woven_pressed c.f_woven_pressed.kp c.b_woven_pressed (fun C fs M' q => ⟨rfl, q⟩) <| .cons <| .var 4 rfl <| .cons <| .var 1 rfl <| .nil <| call.imp ?_
      rintro x M' ⟨⟨C, fs, y, rfl, h1, h2, h3, e⟩, rfl⟩
      refine ⟨C, fs, y, rfl, h1, h2, h3, .one <| .ret <| .var 3 rfl ?_⟩
      rw [← e]; exact h
  · rintro C fs ρ' M' ⟨rfl, rfl, rfl, i, rfl, e⟩
    refine ⟨c.exm_BadPress, fun a dx oe pn hz hf => ?_⟩
    refine .one <| .setN 3 s__law_told.nd <| .list <| .cons <| .str <| .cons <| WE.xf c.exc_BadPress.2 c.nox_BadPress hz hf <| .var 5 rfl ⟨_, .int i, rfl, rfl, ?_⟩
    refine .cons <| .callB c.n_isinstance rfl <| .cons <| .var 5 rfl <| .cons <| .cls c.g_LoomError <| .nil <| VC.isE c.exc_BadPress.1 hz hf c.kit_BadPress <| .nil ⟨by show 3 ≤ sizeLine; decide, ?_⟩
    refine .one <| .ret <| .var 3 rfl ?_
    rw [← e]; exact h
theorem t_law_value_right (c : E82 w K mg base) {v : LW} (ok : LawW v) {d : D} {n : Nat} (hv : vl n d = true) (hn : n ≤ 1000) (hw : wtD d ≤ 5000) (hp : dpD d ≤ 20) {b : Bool} (h : Q (.bl true) M) :
    TFn P82 w K mg base 8 (ga K "_law_value_right") (fdOf K ("_law_value_right", none)) ["_law_w", "_law_code", "_law_it", "_law_by_name"] [wD v, loomD K v, d, .bl b] M Q := by
  refine TFn.of c.f__law_value_right s__law_value_right rfl fun cdv A outer s H F hr => ?_
  have hs := sizeLine_eq
  have lo : Lo (cxOf (L2.CX P82 w) P82 w K mg base n__law_value_right "_law_value_right" q__law_value_right (ga K "_law_value_right") cdv A outer s H (XEnd K H F M noX)) 7 := ⟨hr, rfl⟩
  have l1 := ok.ok.l1
  have rd : RepOk 5000 20 d := .of hn hv hw hp
  refine .cons <| .par 4 5 rfl s__law_value_right.nd <| .cons <| .callB c.n_repr rfl <| .cons <| .var 2 rfl <| .nil <| VC.reprO lo c.sys rd (by omega) (by omega) <| .cons <| .call (hr.mono (j := 2) (by omega)) c.g__law_fault c.f__law_fault.kp c.b__law_fault <| .cons <| .var 0 rfl <| .cons <| .var 2 rfl <| .nil <| t_law_fault c l1 hv hn <| .nil ⟨_, _, rfl, ?_⟩
  have eN : TL.isNon (optI (faultP v.lifts.length d)) = decide (faultP v.lifts.length d = none) := by cases faultP v.lifts.length d <;> rfl
  refine .cut (fun ρ' M' => ρ' = [some (wD v), some (loomD K v), some d, some (.bl b), some (.str (shN d)), some (optI (faultP v.lifts.length d)), some (toldD v d), none] ∧ M' = M) (.setN 6 s__law_value_right.nd <| .ife <| .cmp <| .var 5 rfl <| .non <| VO.isN ⟨_, rfl, ?_⟩) ?_
  · rw [eN]
    cases hf : faultP v.lifts.length d with
    | none =>
      obtain ⟨xs, rfl, x0, hx⟩ := fault_tupD hf
      obtain ⟨xl, xv⟩ := vl_tup hv
      refine ⟨fun _ => .call (hr.mono (j := 1) (by omega)) c.g__law_woven c.f__law_woven.kp c.b__law_woven <| .cons <| .var 0 rfl <| .cons <| .var 2 rfl <| .nil <| t_law_woven c ok.ok (by omega) hx (fun y hy => ?_) ⟨?_, rfl⟩, fun z => nomatch z⟩
      · have := xv y hy
        rw [(press_txt (hx y hy)).1] at this
        have := (vl_str this).1
        omega
      · unfold toldD
        rw [hf]
        rfl
    | some i =>
      refine ⟨fun z => (nomatch z), fun _ => .list <| .cons <| .str <| .cons <| .var 5 rfl <| .cons <| .bl <| .nil ⟨by show 3 ≤ sizeLine; decide, ?_, rfl⟩⟩
      unfold toldD
      rw [hf]
      rfl
  rintro ρ' M' ⟨rfl, rfl⟩
  have rt := told_rep ok hn hv
  have ep : pressesB v.lifts.length d = decide (faultP v.lifts.length d = none) := (fault_presses _ d).symm
  refine .cons <| .setN 7 s__law_value_right.nd <| .list <| .cons <| .call (hr.mono (j := 3) (by omega)) c.g_are_presses c.f_are_presses.kp c.b_are_presses <| .cons <| .var 1 rfl <| .cons <| .var 2 rfl <| .nil <| t_are_presses c hv hn <| .cons <| WE.callKw true (hr.mono (j := 3) (by omega)) c.g_are_presses c.f_are_presses.kp c.k_are_presses rfl <| .cons <| .var 2 rfl <| .cons <| .var 1 rfl <| .nil <| t_are_presses c hv hn <| .nil ⟨by show 2 ≤ sizeLine; decide, ?_⟩
  rw [ep]
  have rb : RepOk 10 1 (.lst [.bl (decide (faultP v.lifts.length d = none)), .bl (decide (faultP v.lifts.length d = none))]) := (RepOk.lst (n := 0) (p := 0) fun x hx => by
    simp only [List.mem_cons, List.not_mem_nil, or_false, or_self] at hx
    rw [hx]; exact RepOk.bl _).mono (by simp) (by omega)
  refine .skip <| .ww <| .or <| .cmp <| .callB c.n_repr rfl <| .cons <| .var 7 rfl <| .nil <| VC.reprO lo c.sys rb (by omega) (by omega) <| .callB c.n_repr rfl <| .cons <| .bin <| .listM <| .cons <| .cmp <| .var 5 rfl <| .non <| VO.isN <| .nil ⟨by show 1 ≤ sizeLine; decide, fun p hp => ?_⟩
  refine .int <| VO.repM mset_same (by decide) (by decide) (by show 1 * 2 ≤ sizeLine; decide) <| .nil ?_
  rw [mdel_mset hp, eN]
  refine VC.reprO lo c.sys (d := .lst [.bl (decide (faultP v.lifts.length d = none)), .bl (decide (faultP v.lifts.length d = none))]) rb (by omega) (by omega) <| VO.neS ⟨_, rfl, by simp, fun _ => ?_⟩
  refine .or1 <| .cmp <| .callB c.n_repr rfl <| .cons <| .var 2 rfl <| .nil <| VC.reprO lo c.sys rd (by omega) (by omega) <| .var 4 rfl <| VO.neS ⟨_, rfl, by simp, ?_⟩
  refine .one <| .ret <| .and <| .cmp <| .callB c.n_repr rfl <| .cons <| .call (hr.mono (j := 7) (by omega)) c.g__law_told c.f__law_told.kp c.b__law_told <| .cons <| .var 0 rfl <| .cons <| .var 2 rfl <| .cons <| .var 3 rfl <| .nil <| t_law_told c ok hv hn <| .nil <| VC.reprO lo c.sys rt (by omega) (by omega) <| .callB c.n_repr rfl <| .cons <| .var 6 rfl <| .nil <| VC.reprO lo c.sys rt (by omega) (by omega) <| VO.eqS ⟨_, rfl, by simp, fun _ => ?_⟩
  refine .one <| .cmp <| .callB c.n_repr rfl <| .cons <| .var 2 rfl <| .nil <| VC.reprO lo c.sys rd (by omega) (by omega) <| .var 4 rfl <| VO.eqS ?_
  rw [decide_eq_true rfl]
  exact h
end
end K82
end
section
set_option maxRecDepth 100000
set_option maxHeartbeats 0
/-! K82Zb: bars and covers told right. -/
namespace TL
open PySem PySem.Spec PyProof.Rows L2
/-- l + m, to be written -/
theorem VO.catLM {X : Cx} {M : Mp} {Q : DQ} {xs ys : List D} (hl : xs.length + ys.length ≤ sizeLine) (h : ∀ p, M p = none → Q (.ref p) (mset M p (.lst (xs ++ ys)))) : VO X (binaryOp .Add) (.lst xs) (.lst ys) M Q := by
  intro pins s σ H F v1 v2 u1 u2 I R r1 r2 p1 p2
  cases p1 with
  | @lst _ va _ q1 p1 =>
    cases p2 with
    | @lst _ vb _ q2 p2 =>
      cases r1
      cases r2
      obtain ⟨z1, i1, n1, w1, e1⟩ := (R.sub.rd q1).ok I.hok
      obtain ⟨z2, i2, n2, w2, e2⟩ := (R.sub.rd q2).ok I.hok
      have hz : i1.length + i2.length ≤ sizeLine := by rw [← w1.length, ← w2.length, p1.length, p2.length]; exact hl
      refine PySem.P.add_list e1 e2 ?_ (by simpa using hz)
      have ea : i1.toArray ++ i2.toArray = (i1 ++ i2).toArray := by simp
      rw [ea]
      have hf := I.fresh
      exact ⟨.ref _, _, _, _, _, I.lnew (t' := s.toks) (w1.append w2) (by rw [List.length_append, w1.length, w2.length]; exact hz), rfl, Stp.newM R hf (.lst (p1.append p2)), .ref _, h _ (R.free hf)⟩
end TL
namespace K82
open PySem PySem.Spec PyProof.Rows L2 TL
open He (ga ma fAd)
theorem natsOf_D (l : List Nat) : natsOf (.tup (natsD l)) = l := by
  show (natsD l).map (fun d => (intOf d).toNat) = l
  rw [List.map_map]
  refine (List.map_congr_left fun i _ => ?_).trans (List.map_id l)
  show (Int.toNat (i : Int)) = i
  exact Int.toNat_natCast i
theorem barOf_D (b : List Nat × List Nat) : barOf (barD b) = b := by
  show (natsOf (.tup (natsD b.1)), natsOf (.tup (natsD b.2))) = b
  rw [natsOf_D, natsOf_D]
/-- a small bar -/
structure BarS (b : List Nat × List Nat) : Prop where
  l1 : b.1.length ≤ 7
  l2 : b.2.length ≤ 7
  n1 : ∀ i ∈ b.1, i < 10
  n2 : ∀ i ∈ b.2, i < 10
theorem nat_w {i : Nat} (h : i < 10) : vl 200 (.int (i : Int)) = true ∧ wtD (.int (i : Int)) ≤ 4 ∧ dpD (.int (i : Int)) ≤ 0 := by
  have : ∀ i : Nat, i < 10 → vl 200 (.int (i : Int)) = true ∧ wtD (.int (i : Int)) ≤ 4 ∧ dpD (.int (i : Int)) ≤ 0 := by decide +kernel
  exact this i h
theorem wt_le {N : Nat} : ∀ {ds : List D}, (∀ d ∈ ds, wtD d ≤ N) → wtAll ds ≤ ds.length * (N + 1)
  | [], _ => by simp [wtAll_nil]
  | d :: ds, h => by
    have h1 := h d (List.mem_cons_self ..)
    have h2 := wt_le (N := N) fun x hx => h x (List.mem_cons_of_mem d hx)
    rw [wtAll_cons, List.length_cons, Nat.add_mul]
    omega
theorem nats_ok {l : List Nat} (hl : l.length ≤ 7) (hn : ∀ i ∈ l, i < 10) : vl 200 (.tup (natsD l)) = true ∧ wtD (.tup (natsD l)) ≤ 35 ∧ dpD (.tup (natsD l)) ≤ 1 := by
  have key : ∀ d ∈ natsD l, vl 200 d = true ∧ wtD d ≤ 4 ∧ dpD d ≤ 0 := fun d hd => by
    obtain ⟨i, hi, rfl⟩ := List.mem_map.mp hd
    exact nat_w (hn i hi)
  refine ⟨vl_tupI (by rw [List.length_map]; omega) fun d hd => (key d hd).1, ?_, (dpD_tup (p := 0) _).mpr fun d hd => (key d hd).2.2⟩
  rw [wtD_tup]
  have := wt_le fun d hd => (key d hd).2.1
  rw [List.length_map] at this
  omega
theorem bar_ok {b : List Nat × List Nat} (h : BarS b) : vl 200 (barD b) = true ∧ wtD (barD b) ≤ 72 ∧ dpD (barD b) ≤ 2 := by
  obtain ⟨a1, a2, a3⟩ := nats_ok h.l1 h.n1
  obtain ⟨b1, b2, b3⟩ := nats_ok h.l2 h.n2
  refine ⟨vl_tupI (by show 2 ≤ 200; omega) fun d hd => ?_, ?_, (dpD_tup (p := 1) _).mpr fun d hd => ?_⟩
  · simp only [List.mem_cons, List.not_mem_nil, or_false] at hd
    rcases hd with rfl | rfl
    · exact a1
    · exact b1
  · unfold barD
    rw [wtD_tup, wtAll_cons, wtAll_cons, wtAll_nil]
    omega
  · simp only [List.mem_cons, List.not_mem_nil, or_false] at hd
    rcases hd with rfl | rfl
    · exact a3
    · exact b3
/-- what is handed in as a cover -/
structure Vs (d : D) : Prop where
  v : vl 200 d = true
  w : wtD d ≤ 1100
  p : dpD d ≤ 3
theorem bars_ok {bs : List (List Nat × List Nat)} (hl : bs.length ≤ 14) (h : ∀ b ∈ bs, BarS b) : Vs (.tup (bs.map barD)) := by
  have key : ∀ d ∈ bs.map barD, vl 200 d = true ∧ wtD d ≤ 72 ∧ dpD d ≤ 2 := fun d hd => by
    obtain ⟨b, hb, rfl⟩ := List.mem_map.mp hd
    exact bar_ok (h b hb)
  refine ⟨vl_tupI (by rw [List.length_map]; omega) fun d hd => (key d hd).1, ?_, (dpD_tup (p := 2) _).mpr fun d hd => (key d hd).2.2⟩
  rw [wtD_tup]
  have := wt_le fun d hd => (key d hd).2.1
  rw [List.length_map] at this
  omega
/-- a row's bar -/
def upBar (rows : List (List Nat)) (i : Nat) : List Nat × List Nat := ([i], ixs isX (rows.getD i []))
def fullE (b : List Nat × List Nat) : Bool := !decide (b.2 = [])
def plainL (rows : List (List Nat)) : List (List Nat × List Nat) := ((List.range rows.length).map (upBar rows)).filter fullE
theorem plain_ok {rows : List (List Nat)} {m : Nat} (ok : CW rows m) (r6 : rows.length ≤ 6) (m7 : m ≤ 7) : (plainL rows).length ≤ 6 ∧ ∀ b ∈ plainL rows, BarS b := by
  refine ⟨Nat.le_trans (List.length_filter_le _ _) (by simpa using r6), fun b hb => ?_⟩
  obtain ⟨i, hi, rfl⟩ := List.mem_map.mp (List.mem_filter.mp hb).1
  have hi := List.mem_range.mp hi
  have er : rows.getD i [] = rows[i] := by rw [List.getD_eq_getElem?_getD, List.getElem?_eq_getElem hi]; rfl
  have rl := (ok.r2 _ (List.getElem_mem hi)).1
  refine ⟨by simp [upBar], ?_, fun j hj => ?_, fun j hj => ?_⟩
  · unfold upBar
    rw [er]
    have := ixs_len (q := isX) (xs := rows[i])
    simp only
    omega
  · simp [upBar] at hj; omega
  · unfold upBar at hj
    rw [er] at hj
    obtain ⟨x, hx, _⟩ := mem_ixs.mp hj
    have := (List.getElem?_eq_some_iff.mp hx).1
    omega
section
variable {w : World} {K : PySem.W.Frag} {mg : Str → Option Value} {base : Heap} {M : Mp} {Q : DQ}
theorem t_law_cover_right (c : E82 w K mg base) {rows : List (List Nat)} {m : Nat} (ok : CW rows m) (r6 : rows.length ≤ 6) (m7 : m ≤ 7) {own : List (List Nat × List Nat)} (ol : own.length ≤ 4) (ob : ∀ b ∈ own, BarS b) {a l : Addr} {k : Dk} (hn : l ≠ a) {n : Nat} (kn : DkN k n) (hd : n < 700000)
    (h : ∀ k', DkN k' (n + 1000) → Q (.bl true) (dkM a l k' M)) :
    TFn P82 w K mg base 11 (ga K "_law_cover_right") (fdOf K ("_law_cover_right", none)) ["_law_deck_here", "_law_cloth_now", "_law_own"] [.ref a, .tup (rows.map D.str), .tup (own.map barD)] (dkM a l k M) Q := by
  refine TFn.of c.f__law_cover_right s__law_cover_right rfl fun cdv A outer s H F hr => ?_
  have hs := sizeLine_eq
  have hr2 := hr.mono (j := 2) (by omega)
  have lo : Lo (cxOf (L2.CX P82 w) P82 w K mg base n__law_cover_right "_law_cover_right" q__law_cover_right (ga K "_law_cover_right") cdv A outer s H (XEnd K H F (dkM a l k M) noX)) 10 := ⟨hr, rfl⟩
  have hu0 : (A.deeper (envOfC "_law_cover_right" q__law_cover_right s.heap.objs.size (ga K "_law_cover_right") cdv)).units < cLine := Nat.lt_of_le_of_lt (Nat.le_add_right _ 64) hr.room.units
  refine .cons <| .par 3 4 rfl s__law_cover_right.nd <| .cons <| WE.make c.mk_Cloth (k := 3) (hr.mono (j := 4) (by omega)) c.g_Cloth c.b_Cloth_init <| .cons <| .var 1 rfl <| .nil fun z hz => t_Cloth_init c ok hz <| .cons <| .listM <| .nil ⟨by show 0 ≤ sizeLine; decide, fun p hp => .nil ⟨_, _, rfl, ?_⟩⟩
  obtain ⟨pa, pl, hp⟩ := dk_none hp
  rw [dk_mset pa pl]
  have atp : ∀ k' ds, dkM a l k' (mset M p (.lst ds)) p = some (.lst ds) := fun k' ds => by rw [dk_else pa pl, mset_same]
  refine .cons <| .for (L2.passes_of rfl) rfl ?_
  refine WI.enum c.n_enumerate <| .var 1 rfl ⟨_, rfl, ?_⟩
  unfold enD
  rw [List.length_map]
  refine ForT.map (fun (i : Nat) => D.tup [.int (i : Int), (rows.map D.str).getD i .non]) (fun pre ρ M' => (∃ y5 y6 y7, ρ = [some (.ref a), some (.tup (rows.map D.str)), some (.tup (own.map barD)), some (clothD K rows), some (.ref p), y5, y6, y7, none, none, none, none, none, none, none, none, none, none]) ∧ M' = dkM a l k (mset M p (.lst ((pre.map (upBar rows)).map barD)))) ?_ ?_ ⟨⟨_, _, _, rfl⟩, rfl⟩
  · rintro pre i post ρ M' e ⟨⟨y5, y6, y7, rfl⟩, rfl⟩
    obtain ⟨hpl, hi⟩ := range_at e
    have er : rows.getD i [] = rows[i] := by rw [List.getD_eq_getElem?_getD, List.getElem?_eq_getElem hi]; rfl
    have eg : (rows.map D.str).getD i .non = .str rows[i] := by rw [List.getD_eq_getElem?_getD, List.getElem?_map, List.getElem?_eq_getElem hi]; rfl
    have rl := (ok.r2 _ (List.getElem_mem hi)).1
    have eu : upBar rows i = ([i], ixs isX rows[i]) := by unfold upBar; rw [er]
    rw [eg]
    generalize rows[i] = r at *
    refine .tup rfl <| .cons <| .nameN 5 s__law_cover_right.nd <| .cons <| .nameN 6 s__law_cover_right.nd <| .nil ?_
    refine .cons <| .setN 7 s__law_cover_right.nd <| .callTy c.n_tuple rfl <| .cons ?_
    refine WE.lc2 8 9 [("_law_j", 8), ("_law_sign", 9)] rfl s__law_cover_right.nd (show BlkOk n__law_cover_right q__law_cover_right _ _ from ⟨rfl, by decide +kernel, by decide +kernel, by decide +kernel, by decide +kernel⟩) ?_
    refine WI.enum c.n_enumerate <| .var 6 rfl ⟨_, rfl, ?_⟩
    refine CompT.ixs (f := fun c => D.str [c]) isX (fun j x hj => ⟨_, rfl, fun s H C cl fp => .cmp <| .var 9 rfl <| .str <| VO.eqS ⟨_, rfl, by simp [lit, isX], rfl⟩, fun s H C cl fp => .var 8 rfl ⟨rfl, rfl⟩⟩) (by omega) <| .nil <| VC.tupleL ?_
    refine .one <| .expr <| .bm PySem.F.plainAttrs_list PySem.F.slot_list_append PySem.F.type_list_append <| .var 4 rfl ⟨.lstM (atp _ _), .cons <| .tuple <| .cons <| .tuple <| .cons <| .var 5 rfl <| .nil ⟨by show 1 ≤ sizeLine; decide, .cons <| .var 7 rfl <| .nil ⟨by show 2 ≤ sizeLine; decide, .nil <| VM.append (atp _ _) (by simp; omega) ⟨⟨_, _, _, rfl⟩, ?_⟩⟩⟩⟩
    rw [dk_mset pa pl, mset_mset, List.map_append, List.map_append]
    simp only [List.map_cons, List.map_nil, eu]
    rfl
  rintro ρ M' ⟨⟨y5, y6, y7, rfl⟩, rfl⟩
  refine ⟨[some (.ref a), some (.tup (rows.map D.str)), some (.tup (own.map barD)), some (clothD K rows), some (.ref p), none, none, none, none, none, none, none, none, none, none, none, none, none], by simp [Le], ?_⟩
  refine .freeze 4 rfl (atp _ _) ?_
  rw [dk_mdel pa pl, mdel_mset hp]
  refine .cons <| .setN 10 s__law_cover_right.nd <| .callTy c.n_tuple rfl <| .cons ?_
  refine WE.lc1 11 [("_law_bar", 11)] rfl s__law_cover_right.nd (show BlkOk n__law_cover_right q__law_cover_right _ _ from ⟨rfl, by decide +kernel, by decide +kernel, by decide +kernel, by decide +kernel⟩) ?_
  refine WI.list <| .var 4 rfl ⟨_, rfl, ?_⟩
  refine CompT.filter (fun d => fullE (barOf d)) (fun d => d) (fun y hy => ?_) (by simp; omega) ?_
  · obtain ⟨b, hb, rfl⟩ := List.mem_map.mp hy
    refine ⟨_, rfl, fun s H C cl fp => .cmp <| .ix <| .var 11 rfl <| .int <| VI.tup (d := .tup (natsD b.2)) (TL.atI_nat (i := 1)) <| .tuple <| .nil ⟨by decide, VO.neT0 hu0 ⟨_, rfl, ?_, rfl⟩⟩, fun _ s H C cl fp => .var 11 rfl ⟨rfl, rfl⟩⟩
    rw [nats_nil, barOf_D]
    rfl
  have epl : ((((List.range rows.length).map (upBar rows)).map barD).filter fun d => fullE (barOf d)).map (fun d => d) = (plainL rows).map barD := by
    rw [List.map_id', List.filter_map]
    have : ((fun d => fullE (barOf d)) ∘ barD) = fullE := funext fun b => by simp only [Function.comp, barOf_D]
    rw [this]
    rfl
  rw [List.nil_append, epl]
  refine .nil <| VC.tupleL ?_
  obtain ⟨pl6, pb⟩ := plain_ok ok r6 m7
  generalize plainL rows = ps at *
  have c1 : TL.cutD (ps.map barD) (some 1) none = (ps.drop 1).map barD := by rw [show (1 : Int) = ((1 : Nat) : Int) from rfl, cut_drop, List.map_drop]
  have c2 : TL.cutD (ps.map barD) none (some 1) = (ps.take 1).map barD := by rw [show (1 : Int) = ((1 : Nat) : Int) from rfl, cut_take, List.map_take]
  have pt : (ps.take 1).length ≤ 1 := by rw [List.length_take]; omega
  refine .cons <| .setN 12 s__law_cover_right.nd <| .listM <| .cons <| .var 10 rfl <| .cons <| .var 2 rfl <| .cons <| WE.revT <| .var 10 rfl ⟨_, rfl, ?_⟩
  rw [← List.map_reverse]
  refine .cons <| .bin <| .var 10 rfl <| .var 2 rfl <| VO.catT (by rw [List.length_map, List.length_map]; omega) ?_
  rw [← List.map_append]
  refine .cons <| .slice <| .var 10 rfl <| .some <| .int ⟨_, rfl, .none <| VS.tup ?_⟩
  rw [c1]
  refine .cons <| .bin <| .var 10 rfl <| .slice <| .var 10 rfl <| .none <| .some <| .int ⟨_, rfl, VS.tup ?_⟩
  rw [c2]
  refine VO.catT (by rw [List.length_map, List.length_map]; omega) ?_
  rw [← List.map_append]
  refine .cons <| .tuple <| .nil ⟨by show 0 ≤ sizeLine; decide, .cons <| .non <| .cons <| .list <| .nil ⟨by show 0 ≤ sizeLine; decide, .cons <| .bin <| .slice <| .var 10 rfl <| .none <| .some <| .int ⟨_, rfl, VS.tup ?_⟩⟩⟩
  rw [c2]
  refine .var 2 rfl <| VO.catT (by rw [List.length_map, List.length_map]; omega) ?_
  rw [← List.map_append]
  refine .nil ⟨by show 10 ≤ sizeLine; decide, fun q hq => ?_⟩
  obtain ⟨qa, ql, hq⟩ := dk_none hq
  rw [dk_mset qa ql]
  have vs : ∀ d ∈ [D.tup (ps.map barD), .tup (own.map barD), .tup (ps.reverse.map barD), .tup ((ps ++ own).map barD), .tup ((ps.drop 1).map barD), .tup ((ps ++ ps.take 1).map barD), .tup [], .non, .lst [], .tup ((ps.take 1 ++ own).map barD)], Vs d := fun d hd => by
    have ms : ∀ {x y : List (List Nat × List Nat)}, (∀ b ∈ x, BarS b) → (∀ b ∈ y, BarS b) → ∀ b ∈ x ++ y, BarS b := fun hx hy b hb => (List.mem_append.mp hb).elim (hx b) (hy b)
    have mt : ∀ b ∈ ps.take 1, BarS b := fun b hb => pb b (List.mem_of_mem_take hb)
    simp only [List.mem_cons, List.not_mem_nil, or_false] at hd
    rcases hd with rfl | rfl | rfl | rfl | rfl | rfl | rfl | rfl | rfl | rfl
    · exact bars_ok (by omega) pb
    · exact bars_ok (by omega) ob
    · exact bars_ok (by rw [List.length_reverse]; omega) fun b hb => pb b (List.mem_reverse.mp hb)
    · exact bars_ok (by rw [List.length_append]; omega) (ms pb ob)
    · exact bars_ok (by rw [List.length_drop]; omega) fun b hb => pb b (List.mem_of_mem_drop hb)
    · exact bars_ok (by rw [List.length_append]; omega) (ms pb mt)
    · exact bars_ok (bs := []) (by simp) (by simp)
    · exact ⟨rfl, by decide, by decide⟩
    · exact ⟨rfl, by decide, by decide⟩
    · exact bars_ok (by rw [List.length_append]; omega) (ms mt ob)
  have atq : ∀ k' ds, dkM a l k' (mset M q (.lst ds)) q = some (.lst ds) := fun k' ds => by rw [dk_else qa ql, mset_same]
  refine .cons <| .for (L2.passes_of rfl) rfl ?_
  refine WI.range1 c.n_range <| .int ⟨_, rfl, by decide, by decide, ?_⟩
  unfold rng
  refine ForT.map (fun (i : Nat) => D.int (0 + (i : Int))) (fun pre ρ M' => (∃ x13, ρ = [some (.ref a), some (.tup (rows.map D.str)), some (.tup (own.map barD)), some (clothD K rows), some (.lst (((List.range rows.length).map (upBar rows)).map barD)), none, none, none, none, none, some (.tup (ps.map barD)), none, some (.ref q), x13, none, none, none, none]) ∧ ∃ (ds : List D) (k' : Dk), ds.length = 10 + pre.length ∧ (∀ d ∈ ds, vl 202 d = true ∧ wtD d ≤ 2400 ∧ dpD d ≤ 5) ∧ DkN k' (n + 50 * pre.length) ∧ M' = dkM a l k' (mset M q (.lst ds))) ?_ ?_ ⟨⟨_, rfl⟩, _, k, rfl, fun d hd => ?_, kn, rfl⟩
  rotate_left 2
  · have := vs d hd
    exact ⟨vl_mono (by omega) this.v, by have := this.w; omega, by have := this.p; omega⟩
  · rintro pre i post ρ M' e ⟨⟨x13, rfl⟩, ds, k', dl, dv, kn', rfl⟩
    have hpl : pre.length < 6 := by
      have := congrArg List.length e
      simp at this; omega
    refine .nameN 13 s__law_cover_right.nd ?_
    refine .one <| .expr <| .bm PySem.F.plainAttrs_list PySem.F.slot_list_append PySem.F.type_list_append <| .var 12 rfl ⟨.lstM (atq _ _), .cons <| .call (hr.mono (j := 9) (by omega)) c.g__law_bent c.f__law_bent.kp c.b__law_bent <| .cons <| .var 0 rfl <| .cons ?_⟩
    refine .call hr2 c.g__law_pick c.f__law_pick.kp c.b__law_pick <| .cons <| .var 0 rfl <| .cons <| .list <| .cons <| .var 10 rfl <| .cons <| .var 2 rfl <| .cons <| .bin <| .var 10 rfl <| .var 2 rfl <| VO.catT (by rw [List.length_map, List.length_map]; omega) ?_
    rw [← List.map_append]
    refine .nil ⟨by show 3 ≤ sizeLine; decide, .nil <| t_pick c hn kn' (by omega) (.lst _) (by simp) (by simp) fun d hd' k1 kn1 => .cons <| .int <| .nil ?_⟩
    have vd : Vs d := by
      simp only [List.mem_cons, List.not_mem_nil, or_false] at hd'
      rcases hd' with rfl | rfl | rfl
      · exact vs _ (by simp)
      · exact vs _ (by simp)
      · exact vs _ (by simp)
    refine t_law_bent c hn (n := 200) (by omega) (by omega) 5 vd.v kn1 (by omega) fun d' k2 bd kn2 => .nil <| VM.append (atq _ _) (by omega) ⟨⟨_, rfl⟩, ds ++ [d'], k2, by simp [dl]; omega, fun y hy => ?_, kn2.mono (by rw [List.length_append, List.length_singleton]; omega), ?_⟩
    · rcases List.mem_append.mp hy with hy | hy
      · exact dv y hy
      · rw [List.mem_singleton.mp hy]
        have := bd.w
        have := bd.p
        have := vd.w
        have := vd.p
        exact ⟨bd.v, by omega, by omega⟩
    · rw [dk_mset qa ql, mset_mset]
  rintro ρ M' ⟨⟨x13, rfl⟩, ds, k3, dl, dv, kn3, rfl⟩
  rw [List.length_range] at dl kn3
  refine ⟨[some (.ref a), some (.tup (rows.map D.str)), some (.tup (own.map barD)), some (clothD K rows), some (.lst (((List.range rows.length).map (upBar rows)).map barD)), none, none, none, none, none, some (.tup (ps.map barD)), none, some (.ref q), none, none, none, none, none], by simp [Le], ?_⟩
  refine .freeze 12 rfl (atq _ _) ?_
  rw [dk_mdel qa ql, mdel_mset hq]
  -- covers
  refine .cons <| .for (L2.passes_of rfl) rfl ?_
  refine WI.enum c.n_enumerate <| .var 12 rfl ⟨_, rfl, ?_⟩
  unfold enD
  refine ForT.map (fun (i : Nat) => D.tup [.int (i : Int), ds.getD i .non]) (fun pre ρ M' => (∃ y5 y14 y15 y16, ρ = [some (.ref a), some (.tup (rows.map D.str)), some (.tup (own.map barD)), some (clothD K rows), some (.lst (((List.range rows.length).map (upBar rows)).map barD)), y5, none, none, none, none, some (.tup (ps.map barD)), none, some (.lst ds), none, y14, y15, y16, none]) ∧ M' = dkM a l k3 M) ?_ ?_ ⟨⟨none, none, none, none, rfl⟩, rfl⟩
  · rintro pre i post ρ M' e ⟨⟨y5, y14, y15, y16, rfl⟩, rfl⟩
    obtain ⟨hpl, hi⟩ := range_at e
    have hi : i < ds.length := by simpa using hi
    have eg : ds.getD i .non = ds[i] := by rw [List.getD_eq_getElem?_getD, List.getElem?_eq_getElem hi]; rfl
    obtain ⟨v1, v2, v3⟩ := dv ds[i] (List.getElem_mem hi)
    rw [eg]
    generalize ds[i] = d at *
    have rd : RepOk 2400 5 d := .of (by omega) v1 v2 v3
    have rb : ∀ b, RepOk 0 0 (.bl b) := fun b => RepOk.bl b
    refine .tup rfl <| .cons <| .nameN 5 s__law_cover_right.nd <| .cons <| .nameN 14 s__law_cover_right.nd <| .nil ?_
    refine .cons <| .setN 15 s__law_cover_right.nd <| .callB c.n_repr rfl <| .cons <| .var 14 rfl <| .nil <| VC.reprO lo c.sys rd (by omega) (by omega) ?_
    refine .cut (fun ρ' M' => ρ' = [some (.ref a), some (.tup (rows.map D.str)), some (.tup (own.map barD)), some (clothD K rows), some (.lst (((List.range rows.length).map (upBar rows)).map barD)), some (.int (i : Int)), none, none, none, none, some (.tup (ps.map barD)), none, some (.lst ds), none, some d, some (.str (shN d)), some (.bl (coverB rows m d)), none] ∧ M' = dkM a l k3 M) (.setN 16 s__law_cover_right.nd <| .ife <| .cmp <| .bin <| .var 5 rfl <| .int <| VO.modG (by decide) fun r _ _ => .int <| VO.eqI ⟨_, rfl, fun _ => ?_, fun _ => ?_⟩) ?_
    · exact .call (hr.mono (j := 4) (by omega)) c.g_do_cover c.f_do_cover.kp c.b_do_cover <| .cons <| .var 3 rfl <| .cons <| .var 14 rfl <| .nil <| t_do_cover c ok v1 (by omega) ⟨rfl, rfl⟩
    · exact WE.callKw true (hr.mono (j := 4) (by omega)) c.g_do_cover c.f_do_cover.kp c.k_do_cover rfl <| .cons <| .var 14 rfl <| .cons <| .var 3 rfl <| .nil <| t_do_cover c ok v1 (by omega) ⟨rfl, rfl⟩
    rintro ρ' M' ⟨rfl, rfl⟩
    refine .skip <| .ww <| .or <| .cmp <| .callB c.n_repr rfl <| .cons <| .var 16 rfl <| .nil <| VC.reprO lo c.sys (rb _) (by omega) (by omega) <| .callB c.n_repr rfl <| .cons <| .call (hr.mono (j := 4) (by omega)) c.g__law_is_cover c.f__law_is_cover.kp c.b__law_is_cover <| .cons <| .var 1 rfl <| .cons <| .var 14 rfl <| .nil <| t_law_is_cover c ok (by omega) (by omega) v1 (by omega) <| .nil <| VC.reprO lo c.sys (rb _) (by omega) (by omega) <| VO.neS ⟨_, rfl, by simp, fun _ => ?_⟩
    refine .or1 <| .cmp <| .callB c.n_repr rfl <| .cons <| .var 14 rfl <| .nil <| VC.reprO lo c.sys rd (by omega) (by omega) <| .var 15 rfl <| VO.neS ⟨_, rfl, by simp, .done ⟨⟨_, _, _, _, rfl⟩, rfl⟩⟩
  rintro ρ M' ⟨⟨y5, y14, y15, y16, rfl⟩, rfl⟩
  refine ⟨[some (.ref a), some (.tup (rows.map D.str)), some (.tup (own.map barD)), some (clothD K rows), some (.lst (((List.range rows.length).map (upBar rows)).map barD)), none, none, none, none, none, some (.tup (ps.map barD)), none, some (.lst ds), none, none, none, none, none], by simp [Le], ?_⟩
  -- bars
  refine .cons <| .setN 17 s__law_cover_right.nd <| .list <| .cons <| .tuple <| .cons <| .tuple <| .cons <| .int <| .nil ⟨by show 1 ≤ sizeLine; decide, .cons <| .tuple <| .cons <| .int <| .nil ⟨by show 1 ≤ sizeLine; decide, .nil ⟨by show 2 ≤ sizeLine; decide, ?_⟩⟩⟩
  refine .cons <| .tuple <| .cons <| .tuple <| .nil ⟨by show 0 ≤ sizeLine; decide, .cons <| .tuple <| .cons <| .int <| .nil ⟨by show 1 ≤ sizeLine; decide, .nil ⟨by show 2 ≤ sizeLine; decide, ?_⟩⟩⟩
  refine .cons <| .tuple <| .cons <| .tuple <| .cons <| .int <| .nil ⟨by show 1 ≤ sizeLine; decide, .cons <| .tuple <| .nil ⟨by show 0 ≤ sizeLine; decide, .nil ⟨by show 2 ≤ sizeLine; decide, ?_⟩⟩⟩
  refine .cons <| .tuple <| .cons <| .int <| .cons <| .int <| .nil ⟨by show 2 ≤ sizeLine; decide, .cons <| .non <| .cons <| .tuple <| .cons <| .tuple <| .cons <| .int <| .nil ⟨by show 1 ≤ sizeLine; decide, .nil ⟨by show 1 ≤ sizeLine; decide, ?_⟩⟩⟩
  refine .cons <| .tuple <| .cons <| .tuple <| .cons <| .int <| .cons <| .int <| .nil ⟨by show 2 ≤ sizeLine; decide, .cons <| .tuple <| .cons <| .int <| .nil ⟨by show 1 ≤ sizeLine; decide, .nil ⟨by show 2 ≤ sizeLine; decide, .nil ⟨by show 7 ≤ sizeLine; decide, ?_⟩⟩⟩⟩
  generalize exs : [D.tup [.tup [.int 0], .tup [.int 0]], .tup [.tup [], .tup [.int 0]], .tup [.tup [.int 0], .tup []], .tup [.int 0, .int 0], .non, .tup [.tup [.int 0]], .tup [.tup [.int 0, .int 0], .tup [.int 0]]] = xs
  have xv : ∀ d ∈ xs, vl 200 d = true := by
    have : ∀ d ∈ [D.tup [.tup [.int 0], .tup [.int 0]], .tup [.tup [], .tup [.int 0]], .tup [.tup [.int 0], .tup []], .tup [.int 0, .int 0], .non, .tup [.tup [.int 0]], .tup [.tup [.int 0, .int 0], .tup [.int 0]]], vl 200 d = true := by
      have h8 : ([D.tup [.tup [.int 0], .tup [.int 0]], .tup [.tup [], .tup [.int 0]], .tup [.tup [.int 0], .tup []], .tup [.int 0, .int 0], .non, .tup [.tup [.int 0]], .tup [.tup [.int 0, .int 0], .tup [.int 0]]].all fun d => vl 200 d) = true := by decide +kernel
      exact fun d hd => List.all_eq_true.mp h8 d hd
    rw [← exs]
    exact this
  have xl : xs.length = 7 := by rw [← exs]; rfl
  refine .cons <| .setN 17 s__law_cover_right.nd <| .bin <| .bin <| .bin <| .var 17 rfl <| .callTy c.n_list rfl <| .cons <| .var 10 rfl <| .nil <| VC.listT <| VO.catL (by rw [List.length_map]; omega) <| .callTy c.n_list rfl <| .cons <| .var 2 rfl <| .nil <| VC.listT <| VO.catL (by rw [List.length_append, List.length_map, List.length_map]; omega) <| .callTy c.n_list rfl <| .cons <| .var 2 rfl <| .nil <| VC.listT <| VO.catLM (by rw [List.length_append, List.length_append, List.length_map, List.length_map]; omega) fun z hz => ?_
  obtain ⟨za, zl, hz⟩ := dk_none hz
  rw [dk_mset za zl]
  have atz : ∀ k' ds, dkM a l k' (mset M z (.lst ds)) z = some (.lst ds) := fun k' ds => by rw [dk_else za zl, mset_same]
  have yv : ∀ d ∈ xs ++ ps.map barD ++ own.map barD ++ own.map barD, vl 200 d = true := fun d hd => by
    rcases List.mem_append.mp hd with hd | hd
    · rcases List.mem_append.mp hd with hd | hd
      · rcases List.mem_append.mp hd with hd | hd
        · exact xv d hd
        · obtain ⟨b, hb, rfl⟩ := List.mem_map.mp hd
          exact (bar_ok (pb b hb)).1
      · obtain ⟨b, hb, rfl⟩ := List.mem_map.mp hd
        exact (bar_ok (ob b hb)).1
    · obtain ⟨b, hb, rfl⟩ := List.mem_map.mp hd
      exact (bar_ok (ob b hb)).1
  have yl : (xs ++ ps.map barD ++ own.map barD ++ own.map barD).length ≤ 21 := by
    rw [List.length_append, List.length_append, List.length_append, List.length_map, List.length_map]; omega
  have y7 : 7 ≤ (xs ++ ps.map barD ++ own.map barD ++ own.map barD).length := by
    rw [List.length_append, List.length_append, List.length_append, List.length_map, List.length_map]; omega
  generalize xs ++ ps.map barD ++ own.map barD ++ own.map barD = ys at *
  refine .cons <| .for (L2.passes_of rfl) rfl ?_
  refine WI.range1 c.n_range <| .int ⟨_, rfl, by decide, by decide, ?_⟩
  unfold rng
  refine ForT.map (fun (i : Nat) => D.int (0 + (i : Int))) (fun pre ρ M' => (∃ x13, ρ = [some (.ref a), some (.tup (rows.map D.str)), some (.tup (own.map barD)), some (clothD K rows), some (.lst (((List.range rows.length).map (upBar rows)).map barD)), none, none, none, none, none, some (.tup (ps.map barD)), none, some (.lst ds), x13, none, none, none, some (.ref z)]) ∧ ∃ (es : List D) (k' : Dk), 7 ≤ es.length ∧ es.length ≤ 21 + pre.length ∧ (∀ d ∈ es, vl (200 + 2 * pre.length) d = true) ∧ DkN k' (n + 400 + 50 * pre.length) ∧ M' = dkM a l k' (mset M z (.lst es))) ?_ ?_ ⟨⟨_, rfl⟩, ys, k3, y7, by simpa using yl, by simpa using yv, kn3.mono (by simp), rfl⟩
  · rintro pre i post ρ M' e ⟨⟨x13, rfl⟩, es, k', el7, el, ev, kn', rfl⟩
    have hpl : pre.length < 6 := by
      have := congrArg List.length e
      simp at this; omega
    refine .nameN 13 s__law_cover_right.nd ?_
    refine .one <| .expr <| .bm PySem.F.plainAttrs_list PySem.F.slot_list_append PySem.F.type_list_append <| .var 17 rfl ⟨.lstM (atz _ _), .cons <| .call (hr.mono (j := 7) (by omega)) c.g__law_bent c.f__law_bent.kp c.b__law_bent <| .cons <| .var 0 rfl <| .cons ?_⟩
    refine .call hr2 c.g__law_pick c.f__law_pick.kp c.b__law_pick <| .cons <| .var 0 rfl <| .cons <| .var 17 rfl <| .nil <| t_pick c hn kn' (by omega) (.ref za zl mset_same) (by intro e9; rw [e9] at el7; simp at el7) (by omega) fun d hd' k1 kn1 => .cons <| .int <| .nil ?_
    refine t_law_bent c hn (n := 200 + 2 * pre.length) (by omega) (by omega) 3 (ev d hd') kn1 (by omega) fun d' k2 bd kn2 => .nil <| VM.append (atz _ _) (by omega) ⟨⟨_, rfl⟩, es ++ [d'], k2, by rw [List.length_append]; omega, by rw [List.length_append, List.length_append]; simp; omega, fun y hy => ?_, kn2.mono (by rw [List.length_append, List.length_singleton]; omega), ?_⟩
    · rw [List.length_append, List.length_singleton]
      rcases List.mem_append.mp hy with hy | hy
      · exact vl_mono (by omega) (ev y hy)
      · rw [List.mem_singleton.mp hy]
        exact vl_mono (by omega) bd.v
    · rw [dk_mset za zl, mset_mset]
  rintro ρ M' ⟨⟨x13, rfl⟩, es, k4, el7, el, ev, kn4, rfl⟩
  rw [List.length_range] at el ev kn4
  refine ⟨[some (.ref a), some (.tup (rows.map D.str)), some (.tup (own.map barD)), some (clothD K rows), some (.lst (((List.range rows.length).map (upBar rows)).map barD)), none, none, none, none, none, some (.tup (ps.map barD)), none, some (.lst ds), none, none, none, none, some (.ref z)], by simp [Le], ?_⟩
  refine .freeze 17 rfl (atz _ _) ?_
  rw [dk_mdel za zl, mdel_mset hz]
  refine .cons <| .for (L2.passes_of rfl) rfl ?_
  refine WI.enum c.n_enumerate <| .var 17 rfl ⟨_, rfl, ?_⟩
  unfold enD
  refine ForT.map (fun (i : Nat) => D.tup [.int (i : Int), es.getD i .non]) (fun pre ρ M' => (∃ y5 y14 y16, ρ = [some (.ref a), some (.tup (rows.map D.str)), some (.tup (own.map barD)), some (clothD K rows), some (.lst (((List.range rows.length).map (upBar rows)).map barD)), y5, none, none, none, none, some (.tup (ps.map barD)), none, some (.lst ds), none, y14, none, y16, some (.lst es)]) ∧ M' = dkM a l k4 M) ?_ ?_ ⟨⟨none, none, none, rfl⟩, rfl⟩
  · rintro pre i post ρ M' e ⟨⟨y5, y14, y16, rfl⟩, rfl⟩
    obtain ⟨hpl, hi⟩ := range_at e
    have hi : i < es.length := by simpa using hi
    have eg : es.getD i .non = es[i] := by rw [List.getD_eq_getElem?_getD, List.getElem?_eq_getElem hi]; rfl
    have v1 := ev es[i] (List.getElem_mem hi)
    rw [eg]
    generalize es[i] = d at *
    have rb : ∀ b, RepOk 0 0 (.bl b) := fun b => RepOk.bl b
    refine .tup rfl <| .cons <| .nameN 5 s__law_cover_right.nd <| .cons <| .nameN 14 s__law_cover_right.nd <| .nil ?_
    refine .cut (fun ρ' M' => ρ' = [some (.ref a), some (.tup (rows.map D.str)), some (.tup (own.map barD)), some (clothD K rows), some (.lst (((List.range rows.length).map (upBar rows)).map barD)), some (.int (i : Int)), none, none, none, none, some (.tup (ps.map barD)), none, some (.lst ds), none, some d, none, some (.bl (barB rows m d)), some (.lst es)] ∧ M' = dkM a l k4 M) (.setN 16 s__law_cover_right.nd <| .ife <| .cmp <| .bin <| .var 5 rfl <| .int <| VO.modG (by decide) fun r _ _ => .int <| VO.eqI ⟨_, rfl, fun _ => ?_, fun _ => ?_⟩) ?_
    · exact .call (hr.mono (j := 3) (by omega)) c.g_is_bar c.f_is_bar.kp c.b_is_bar <| .cons <| .var 3 rfl <| .cons <| .var 14 rfl <| .nil <| t_is_bar c ok v1 (by omega) ⟨rfl, rfl⟩
    · exact WE.callKw true (hr.mono (j := 3) (by omega)) c.g_is_bar c.f_is_bar.kp c.k_is_bar rfl <| .cons <| .var 14 rfl <| .cons <| .var 3 rfl <| .nil <| t_is_bar c ok v1 (by omega) ⟨rfl, rfl⟩
    rintro ρ' M' ⟨rfl, rfl⟩
    refine .skip <| .cmp <| .callB c.n_repr rfl <| .cons <| .var 16 rfl <| .nil <| VC.reprO lo c.sys (rb _) (by omega) (by omega) <| .callB c.n_repr rfl <| .cons <| .call (hr.mono (j := 3) (by omega)) c.g__law_is_bar c.f__law_is_bar.kp c.b__law_is_bar <| .cons <| .var 1 rfl <| .cons <| .var 14 rfl <| .nil <| t_law_is_bar c ok v1 (by omega) <| .nil <| VC.reprO lo c.sys (rb _) (by omega) (by omega) <| VO.neS ⟨_, rfl, by simp, .done ⟨⟨_, _, _, rfl⟩, rfl⟩⟩
  rintro ρ M' ⟨⟨y5, y14, y16, rfl⟩, rfl⟩
  exact ⟨_, Le.refl _, .one <| .ret <| .bl <| h k4 (kn4.mono (by omega))⟩
end
end K82
end
section
set_option maxRecDepth 100000
set_option maxHeartbeats 0
/-! K82Zc: a loom's parts, to be written. -/
namespace K82
open PySem PySem.Spec PyProof.Rows L2 TL
open He (ga ma fAd)
section
variable {w : World} {K : PySem.W.Frag} {mg : Str → Option Value} {base : Heap} {M : Mp} {Q : DQ}
theorem t_law_loomM (c : E82 w K mg base) {a l : Addr} {k : Dk} (hn : l ≠ a) {n : Nat} (kn : DkN k n) (hd : n < 900000)
    (h : ∀ v k' x, LawW v → v.ends.length ≤ 7 → DkN k' (n + 100) → x ≠ a → x ≠ l → M x = none → Q (.ref x) (dkM a l k' (mset M x (.dic (wO v))))) :
    TFn P82 w K mg base 3 (ga K "_law_loom") (fdOf K ("_law_loom", none)) ["_law_deck_here"] [.ref a] (dkM a l k M) Q := by
  refine TFn.of c.f__law_loom s__law_loom rfl fun cdv A outer s H F hr => ?_
  have hr1 := hr.mono (j := 1) (by omega)
  have hs := sizeLine_eq
  refine .cons <| .par 1 2 rfl s__law_loom.nd <| .cons <| .call hr c.g__law_pick c.f__law_pick.kp c.b__law_pick <| .cons <| .var 0 rfl <| .cons <| .list <| .cons <| .int <| .cons <| .int <| .cons <| .int <| .cons <| .int <| .cons <| .int <| .cons <| .int <| .cons <| .int <| .cons <| .int <| .nil ⟨by show 8 ≤ sizeLine; decide, .nil ?_⟩
  refine t_pick c hn kn (by omega) (.lst _) (by simp) (by simp) fun d hd' k1 kn1 => ?_
  obtain ⟨sh, rfl, s1, s4⟩ : ∃ sh : Int, d = .int sh ∧ 1 ≤ sh ∧ sh ≤ 4 := by
    simp at hd'
    rcases hd' with rfl | rfl | rfl | rfl <;> exact ⟨_, rfl, by decide, by decide⟩
  refine .cons <| .call hr c.g__law_pick c.f__law_pick.kp c.b__law_pick <| .cons <| .var 0 rfl <| .cons <| .list <| .cons <| .int <| .cons <| .int <| .cons <| .int <| .cons <| .int <| .cons <| .int <| .cons <| .int <| .cons <| .int <| .cons <| .int <| .nil ⟨by show 8 ≤ sizeLine; decide, .nil ?_⟩
  refine t_pick c hn kn1 (by omega) (.lst _) (by simp) (by simp) fun d hd' k2 kn2 => ?_
  obtain ⟨mn, rfl, m1, m4⟩ : ∃ mn : Nat, d = .int mn ∧ 1 ≤ mn ∧ mn ≤ 4 := by
    simp at hd'
    rcases hd' with rfl | rfl | rfl | rfl
    · exact ⟨1, rfl, by decide, by decide⟩
    · exact ⟨2, rfl, by decide, by decide⟩
    · exact ⟨3, rfl, by decide, by decide⟩
    · exact ⟨4, rfl, by decide, by decide⟩
  refine .nil ⟨_, _, rfl, ?_⟩
  -- the ends
  refine .cons <| .setN 3 s__law_loom.nd <| .listM <| .nil ⟨by show 0 ≤ sizeLine; decide, fun p hp => ?_⟩
  obtain ⟨pa, pl, hp⟩ := dk_none hp
  rw [dk_mset pa pl]
  refine .cons <| .for (L2.passes_of rfl) rfl ?_
  refine WI.range1 c.n_range <| .call hr c.g__law_pick c.f__law_pick.kp c.b__law_pick <| .cons <| .var 0 rfl <| .cons <| .list <| .cons <| .int <| .cons <| .int <| .cons <| .int <| .cons <| .int <| .cons <| .int <| .cons <| .int <| .cons <| .int <| .nil ⟨by show 7 ≤ sizeLine; decide, .nil ?_⟩
  refine t_pick c hn kn2 (by omega) (.lst _) (by simp) (by simp) fun d hd' k3 kn3 => ?_
  obtain ⟨en, rfl, e1, e7⟩ : ∃ en : Nat, d = .int en ∧ 1 ≤ en ∧ en ≤ 7 := by
    simp at hd'
    rcases hd' with rfl | rfl | rfl | rfl | rfl | rfl | rfl
    · exact ⟨1, rfl, by decide, by decide⟩
    · exact ⟨2, rfl, by decide, by decide⟩
    · exact ⟨3, rfl, by decide, by decide⟩
    · exact ⟨4, rfl, by decide, by decide⟩
    · exact ⟨5, rfl, by decide, by decide⟩
    · exact ⟨6, rfl, by decide, by decide⟩
    · exact ⟨7, rfl, by decide, by decide⟩
  refine ⟨_, rfl, by omega, by omega, ?_⟩
  rw [Int.toNat_natCast]
  unfold rng
  refine ForT.map (fun (i : Nat) => D.int (0 + (i : Int))) (fun pre ρ M' => (∃ x4, ρ = [some (.ref a), some (.int sh), some (.int mn), some (.ref p), x4, none, none, none]) ∧ ∃ (es : List Int) (k' : Dk), es.length = pre.length ∧ (∀ i ∈ es, 0 ≤ i ∧ i < sh) ∧ DkN k' (n + 3 + 2 * pre.length) ∧ M' = dkM a l k' (mset M p (.lst (es.map D.int)))) ?_ ?_ ⟨⟨none, rfl⟩, [], k3, rfl, by simp, kn3, rfl⟩
  · rintro pre i post ρ M' e ⟨⟨x4, rfl⟩, es, k', el, eb, kn', rfl⟩
    obtain ⟨rfl, hi⟩ := range_split e
    rw [List.length_range] at el kn'
    refine .nameN 4 s__law_loom.nd ?_
    rw [Int.zero_add]
    have app : ∀ (x : Int) k'', 0 ≤ x → x < sh → DkN k'' (n + 3 + 2 * (i + 1)) → ∃ (es' : List Int) (k' : Dk), es'.length = (List.range i ++ [i]).length ∧ (∀ i ∈ es', 0 ≤ i ∧ i < sh) ∧ DkN k' (n + 3 + 2 * (List.range i ++ [i]).length) ∧ mset (dkM a l k'' (mset M p (.lst (es.map D.int)))) p (.lst (es.map D.int ++ [.int x])) = dkM a l k' (mset M p (.lst (es'.map D.int))) := by
      intro x k'' x0 x1 kn''
      refine ⟨es ++ [x], k'', by simp [el], ?_, by simpa using kn'', ?_⟩
      · intro y hy
        rcases List.mem_append.mp hy with hy | hy
        · exact eb y hy
        · rw [List.mem_singleton.mp hy]; exact ⟨x0, x1⟩
      · rw [dk_mset pa pl, mset_mset, List.map_append]; rfl
    refine .one <| .expr <| .bm PySem.F.plainAttrs_list PySem.F.slot_list_append PySem.F.type_list_append <| .var 3 rfl ⟨.lstM (by rw [dk_else pa pl, mset_same]), ?_⟩
    refine .cons <| .ife <| .cmp <| .call hr1 c.g__law_draw c.f__law_draw.kp c.b__law_draw <| .cons <| .var 0 rfl <| .cons <| .int <| .nil <| t_draw c hn (by decide) (by decide) kn' (by omega) fun v k4 v0 v1 kn4 => .int <| VO.gt ⟨_, rfl, fun z => ?_, fun z => ?_⟩
    · exact .bin <| .callTy c.n_int rfl <| .cons <| .var 4 rfl <| .nil <| VC.int1 <| .var 1 rfl <| VO.modG (by omega) fun r r0 r1 => .nil <| VM.append (by rw [dk_else pa pl, mset_same]) (by rw [List.length_map]; omega) ⟨⟨_, rfl⟩, app r k4 r0 r1 (kn4.mono (by omega))⟩
    · exact .call hr1 c.g__law_draw c.f__law_draw.kp c.b__law_draw <| .cons <| .var 0 rfl <| .cons <| .var 1 rfl <| .nil <| t_draw c hn (by omega) (by omega) kn4 (by omega) fun v k5 v0 v1 kn5 => .nil <| VM.append (by rw [dk_else pa pl, mset_same]) (by rw [List.length_map]; omega) ⟨⟨_, rfl⟩, app v k5 v0 v1 (kn5.mono (by omega))⟩
  rintro ρ M' ⟨⟨x4, rfl⟩, es, k', el, eb, kn', rfl⟩
  rw [List.length_range] at el kn'
  refine ⟨[some (.ref a), some (.int sh), some (.int mn), some (.ref p), none, none, none, none], by simp [Le], ?_⟩
  -- the lifts
  refine .cons <| .setN 5 s__law_loom.nd <| .listM <| .nil ⟨by show 0 ≤ sizeLine; decide, fun q hq => ?_⟩
  obtain ⟨qa, ql, hq⟩ := dk_none hq
  have qp : q ≠ p := fun e => by rw [e, mset_same] at hq; cases hq
  rw [mset_ne qp] at hq
  rw [dk_mset qa ql]
  refine .cons <| .for (L2.passes_of rfl) rfl ?_
  refine WI.range1 c.n_range <| .var 2 rfl ⟨_, rfl, by omega, by omega, ?_⟩
  rw [Int.toNat_natCast]
  unfold rng
  refine ForT.map (fun (i : Nat) => D.int (0 + (i : Int))) (fun pre ρ M' => (∃ x4 x6, ρ = [some (.ref a), some (.int sh), some (.int mn), some (.ref p), x4, some (.ref q), x6, none]) ∧ ∃ (ls : List (List Int)) (k' : Dk), ls.length = pre.length ∧ (∀ i ∈ ls, LiftOk sh i ∧ riseB i = true) ∧ DkN k' (n + 20 + 10 * pre.length) ∧ M' = dkM a l k' (mset (mset M p (.lst (es.map D.int))) q (.lst (ls.map tupI)))) ?_ ?_ ⟨⟨none, none, rfl⟩, [], k', rfl, by simp, kn'.mono (by simp; omega), rfl⟩
  · rintro pre i post ρ M' e ⟨⟨x4, x6, rfl⟩, ls, k', ll, lb, kn', rfl⟩
    obtain ⟨rfl, hi⟩ := range_split e
    rw [List.length_range] at ll kn'
    refine .nameN 4 s__law_loom.nd ?_
    rw [Int.zero_add]
    have atq : ∀ k', dkM a l k' (mset (mset M p (.lst (es.map D.int))) q (.lst (ls.map tupI))) q = some (.lst (ls.map tupI)) := fun k' => by rw [dk_else qa ql, mset_same]
    refine .cons <| WS.setLc1 6 7 [("_law_n", 7)] rfl s__law_loom.nd (show BlkOk n__law_loom q__law_loom _ _ from ⟨rfl, by decide +kernel, by decide +kernel, by decide +kernel, by decide +kernel⟩) ?_
    refine WI.range1 c.n_range <| .var 1 rfl ⟨_, rfl, by omega, by omega, ?_⟩
    unfold rng
    refine CompT.stepIf (fun (i : Nat) => D.int (0 + (i : Int))) (fun pre acc M' => ∃ (xs : List Int) (k' : Dk), acc = xs.map D.int ∧ xs.Sublist (pre.map fun (i : Nat) => (i : Int)) ∧ DkN k' (n + 20 + 10 * i + pre.length) ∧ M' = dkM a l k' (mset (mset M p (.lst (es.map D.int))) q (.lst (ls.map tupI)))) ?_ (by rw [List.length_range]; omega) ?_ ⟨[], k', rfl, by simp, kn', rfl⟩
    · rintro pre j post acc M' e2 ⟨xs, k', rfl, sl, kn', rfl⟩
      have hpl : pre.length < 4 := by
        have := congrArg List.length e2
        simp at this; omega
      refine ⟨_, rfl, fun b M1 => ∃ k', DkN k' (n + 20 + 10 * i + pre.length + 1) ∧ M1 = dkM a l k' (mset (mset M p (.lst (es.map D.int))) q (.lst (ls.map tupI))), fun s H C cl fp => ?_, ?_, ?_⟩
      · exact .cmp <| .call hr1 c.g__law_draw c.f__law_draw.kp c.b__law_draw <| .cons <| .var 0 rfl <| .cons <| .int <| .nil <| t_draw c hn (by decide) (by decide) kn' (by omega) fun v k4 v0 v1 kn4 => .int <| VO.eqI ⟨_, rfl, k4, kn4, rfl⟩
      · rintro M1 ⟨k4, kn4, rfl⟩
        exact ⟨xs, k4, rfl, by rw [List.map_append]; exact sl.trans (List.sublist_append_left ..), by rw [List.length_append]; exact kn4, rfl⟩
      · rintro M1 ⟨k4, kn4, rfl⟩
        exact fun s H C cl fp => .var 7 rfl ⟨xs ++ [(j : Int)], k4, by rw [List.map_append, Int.zero_add]; rfl, by rw [List.map_append]; exact sl.append (List.Sublist.refl _), by rw [List.length_append]; exact kn4, rfl⟩
    rintro acc M' ⟨xs, k', rfl, sl, kn', rfl⟩
    rw [List.length_range] at kn'
    have lo : LiftOk sh xs := by
      refine ⟨sl.nodup (List.Pairwise.map (fun (i : Nat) => (i : Int)) (fun a b h => by omega) List.nodup_range), fun y hy => ?_⟩
      obtain ⟨j, hj, rfl⟩ := List.mem_map.mp (sl.subset hy)
      have := List.mem_range.mp hj
      omega
    have shn : sh.toNat ≤ 4 := by omega
    refine .cut (LoomR a p q l sh mn i n es ls M 6) ?_ ?_
    · refine .ite <| .ww <| .and <| .cmp <| .var 4 rfl <| .int <| VO.gt ⟨_, rfl, fun z => ⟨fun z => (nomatch z), fun _ => .done ⟨xs, k', lo, kn'.mono (by omega), rfl, rfl⟩⟩, fun z => ?_⟩
      have z := of_decide_eq_true z
      refine .and1 <| .cmp <| .call hr1 c.g__law_draw c.f__law_draw.kp c.b__law_draw <| .cons <| .var 0 rfl <| .cons <| .int <| .nil <| t_draw c hn (by decide) (by decide) kn' (by omega) fun v k4 v0 v1 kn4 => .int <| VO.eqI ⟨_, rfl, fun _ => ?_, fun _ => .done ⟨xs, k4, lo, kn4.mono (by omega), rfl, rfl⟩⟩
      refine .one <| .setN 6 s__law_loom.nd <| .callTy c.n_list rfl <| .cons <| .call hr c.g__law_pick c.f__law_pick.kp c.b__law_pick <| .cons <| .var 0 rfl <| .cons <| .var 5 rfl <| .nil <| t_pick c hn kn4 (by omega) (.ref qa ql mset_same) (by
        intro e
        have := congrArg List.length e
        rw [List.length_map, ll] at this
        simp at this; omega) (by rw [List.length_map]; omega) fun d hd' k5 kn5 => ?_
      obtain ⟨m, hm, rfl⟩ := List.mem_map.mp hd'
      exact .nil <| VC.listT ⟨m, k5, (lb m hm).1, kn5.mono (by omega), rfl, rfl⟩
    rintro ρ' M' ⟨xs, k', lo, kn', rfl, rfl⟩
    refine .cut (LoomR a p q l sh mn i n es ls M 7) ?_ ?_
    · refine .ite <| .ww <| .and <| .cmp <| .var 1 rfl <| .int <| VO.gt ⟨_, rfl, fun z => ⟨fun z => (nomatch z), fun _ => .done ⟨xs, k', lo, kn'.mono (by omega), rfl, rfl⟩⟩, fun z => ?_⟩
      have z := of_decide_eq_true z
      refine .and1 <| .cmp <| .call hr1 c.g__law_draw c.f__law_draw.kp c.b__law_draw <| .cons <| .var 0 rfl <| .cons <| .int <| .nil <| t_draw c hn (by decide) (by decide) kn' (by omega) fun v k4 v0 v1 kn4 => .int <| VO.eqI ⟨_, rfl, fun _ => ?_, fun _ => .done ⟨xs, k4, lo, kn4.mono (by omega), rfl, rfl⟩⟩
      have xl := lo.len s4
      refine .one <| .setN 6 s__law_loom.nd <| .bin ?_
      refine WE.lc1 7 [("_law_n", 7)] rfl s__law_loom.nd (show BlkOk n__law_loom q__law_loom _ _ from ⟨rfl, by decide +kernel, by decide +kernel, by decide +kernel, by decide +kernel⟩) ?_
      refine WI.list <| .var 6 rfl ⟨_, rfl, ?_⟩
      refine CompT.stepIf D.int (fun pre acc M' => acc = (pre.filter fun x => decide (x ≠ 1)).map D.int ∧ M' = dkM a l k4 (mset (mset M p (.lst (es.map D.int))) q (.lst (ls.map tupI)))) ?_ (by omega) ?_ ⟨rfl, rfl⟩
      · rintro pre x post acc M' e2 ⟨rfl, rfl⟩
        refine ⟨_, rfl, fun b M1 => b = decide (x ≠ 1) ∧ M1 = dkM a l k4 (mset (mset M p (.lst (es.map D.int))) q (.lst (ls.map tupI))), fun s H C cl fp => .cmp <| .var 7 rfl <| .int <| VO.neI ⟨_, rfl, by simp, rfl⟩, ?_, ?_⟩
        · rintro M1 ⟨z, rfl⟩
          have := of_decide_eq_false z.symm
          exact ⟨by rw [List.filter_append]; simp [show x = 1 by omega], rfl⟩
        · rintro M1 ⟨z, rfl⟩
          have := of_decide_eq_true z.symm
          exact fun s H C cl fp => .var 7 rfl ⟨by rw [List.filter_append]; simp [this], rfl⟩
      rintro acc M' ⟨rfl, rfl⟩
      have fl : (xs.filter fun x => decide (x ≠ 1)).length ≤ xs.length := List.length_filter_le ..
      have fn : (xs.filter fun x => decide (x ≠ 1)).Nodup := lo.nd.filter _
      have fb : ∀ y ∈ xs.filter fun x => decide (x ≠ 1), y ∈ xs ∧ y ≠ 1 := fun y hy => by simpa using hy
      refine .ife <| .cmp <| .int <| .var 6 rfl <| VO.inL rfl (flat_ints _) ⟨_, rfl, fun z => ?_, fun z => ?_⟩
      · refine .list <| .cons <| .int <| .nil ⟨by show 1 ≤ sizeLine; decide, VO.catL (by simp at *; omega) ⟨(xs.filter fun x => decide (x ≠ 1)) ++ [1], k4, ⟨?_, ?_⟩, kn4.mono (by omega), by rw [List.map_append]; rfl, rfl⟩⟩
        · exact List.nodup_append.mpr ⟨fn, by simp, fun x hx y hy e => (fb x hx).2 (by rw [e]; simpa using hy)⟩
        · intro y hy
          rcases List.mem_append.mp hy with hy | hy
          · exact lo.bd y (fb y hy).1
          · rw [List.mem_singleton.mp hy]; omega
      · refine .list <| .nil ⟨by show 0 ≤ sizeLine; decide, VO.catL (by simp at *; omega) ⟨(xs.filter fun x => decide (x ≠ 1)), k4, ⟨fn, fun y hy => lo.bd y (fb y hy).1⟩, kn4.mono (by omega), by rw [List.append_nil]; rfl, rfl⟩⟩
    rintro ρ' M' ⟨xs, k', lo, kn', rfl, rfl⟩
    have xl := lo.len s4
    refine .one <| .expr <| .bm PySem.F.plainAttrs_list PySem.F.slot_list_append PySem.F.type_list_append <| .var 5 rfl ⟨.lstM (atq _), .cons <| .callTy c.n_tuple rfl <| .cons <| .callB c.n_sorted rfl <| .cons <| .var 6 rfl <| .nil <| VC.sorted <| .nil <| VC.tupleL <| .nil <| VM.append (atq _) (by rw [List.length_map]; omega) ?_⟩
    refine ⟨⟨_, _, rfl⟩, ls ++ [sortI xs], k', by simp [ll], ?_, by rw [List.length_append, List.length_range]; exact kn'.mono (by simp; omega), by rw [dk_mset qa ql, mset_mset, List.map_append]; rfl⟩
    intro y hy
    rcases List.mem_append.mp hy with hy | hy
    · exact lb y hy
    · rw [List.mem_singleton.mp hy]
      exact ⟨⟨(sortI_perm xs).nodup_iff.mpr lo.nd, fun x hx => lo.bd x (mem_sort.mp hx)⟩, rise_of (sort_lt lo.nd)⟩
  rintro ρ M' ⟨⟨x4, x6, rfl⟩, ls, k', ll, lb, kn', rfl⟩
  rw [List.length_range] at ll kn'
  refine ⟨[some (.ref a), some (.int sh), some (.int mn), some (.ref p), none, some (.ref q), none, none], by simp [Le], ?_⟩
  refine .one <| .ret <| .drop q <| .drop p <| .dispM <| .cons <| .str <| .var 1 rfl <| .cons <| .str <| .callTy c.n_tuple rfl <| .cons <| .var 3 rfl <| .nil <| VC.tupleM (by rw [dk_else pa pl, mset_ne (Ne.symm qp), mset_same]) <| .cons <| .str <| .callTy c.n_tuple rfl <| .cons <| .var 5 rfl <| .nil <| VC.tupleM (by rw [dk_else qa ql, mset_same]) <| .nil ⟨wO ⟨sh, es, ls⟩, rfl, by show 3 ≤ 15; decide, fun x _ hx2 => ?_⟩
  obtain ⟨xa, xl9, hx3⟩ := dk_none hx2
  have xq : x ≠ q := fun e => by rw [e, mset_same] at hx3; cases hx3
  rw [mset_ne xq] at hx3
  have xp : x ≠ p := fun e => by rw [e, mset_same] at hx3; cases hx3
  rw [mset_ne xp] at hx3
  rw [w_merge, dk_mset xa xl9, dk_mdel pa pl, dk_mdel qa ql, mdel_mset_ne xp, mdel_mset_ne qp, mdel_mset hp, mdel_mset_ne xq, mdel_mset hq]
  refine h ⟨sh, es, ls⟩ k' x ⟨⟨s1, by show sh ≤ 99; omega, ?_, by show es.length ≤ 100; omega, eb, ?_, by show ls.length ≤ 26; omega, fun y hy => ?_⟩, s4, by show es.length ≤ 9; omega, by show ls.length ≤ 4; omega⟩ (by show es.length ≤ 7; omega) (kn'.mono (by omega)) xa xl9 hx3
  · show es ≠ []
    intro e; rw [e] at el; simp at el; omega
  · show ls ≠ []
    intro e; rw [e] at ll; simp at ll; omega
  · obtain ⟨lo, hr⟩ := lb y hy
    exact ⟨Nat.le_trans (lo.len s4) (by omega), lo.bd, hr⟩
end
end K82
end
section
set_option maxRecDepth 100000
set_option maxHeartbeats 0
/-! K82Zd: tuple(text), t * 1; bars by presses cover what they weave. -/
namespace TL
open PySem PySem.Spec PyProof.Rows L2
section
variable {X : Cx} {M : Mp} {Q : DQ}
theorem call_tuple_txt (hc : X.calm = true) : CallR X (.type "tuple") (fun xs H Q => ∃ x : Str, xs = [.str x] ∧ x.cps.size ≤ sizeLine ∧ ∀ p, H p = none → Q (.ref p) (upd H p (.tup (strV x)))) := by
  intro pins s σ H xs us Q I r h
  obtain ⟨x, rfl, hz, q⟩ := h
  obtain ⟨u, rfl, t, rfl⟩ := vals1 r
  refine PySem.call_tuple_str (hsz := hz) (I.ok.hd hc) x t fun h' tk acc hk hi => ?_
  have hv : Vals (strV x) acc.toList := vals_of_get (by rw [strV_len]; simpa using hi.1.symm) fun i a b h1 h2 => by
    obtain ⟨d, u2, e1, e2⟩ := hi.2 i b (by simpa using h2)
    unfold strV at h1
    rw [List.getElem?_map, Array.getElem?_toList, e1] at h1
    cases h1
    exact ⟨u2, e2⟩
  have I1 : Inv X pins σ H { s with heap := h' } := I.kept (t' := s.toks) hk
  have I2 : Inv X pins σ (upd H h'.objs.size (.tup (strV x))) { s with heap := h'.push { cls := .type "tuple", data := .seq acc }, toks := tk } := I1.laid (t' := tk) (o := .tup (strV x)) (fun b o e => Heap.get?_push_of_some _ e) (Nat.le_refl _) ⟨by rw [strV_len]; exact hz, acc.toList, hv, by simpa using IsTup.new h' acc⟩
  exact ⟨.ref h'.objs.size, _, I2, rfl, q _ (I1.hok.fresh (Nat.le_refl _))⟩
theorem VC.tupleS (hc : X.calm = true) {x : List Nat} (hz : x.length ≤ sizeLine) (h : Q (.tup (x.map fun c => .str [c])) M) : VC X (.type "tuple") [.str x] M Q :=
  .call (call_tuple_txt hc) fun H F vs R p => by
    cases p with
    | cons q p =>
      cases p
      cases q
      refine ⟨_, rfl, by simpa using hz, fun l hl => ?_⟩
      have t := Stp.new (o := .tup (strV ⟨x.toArray⟩)) R hl
      exact ⟨_, M, _, t, .tup (.of upd_same) (t.reps (rep_strV x)), h⟩
theorem tuple_mul1 (l : Addr) (items : Array Value) (n : Nat) (dd : Option Addr) (sl : Array (Option Value)) (u : Tok) :
    Meets (Builtin.«tuple.__mul__» ⟨[.ref l, .int 1 u], []⟩) (fun _ R s => s.heap.get? l = some { cls := .type "tuple", dict := dd, data := .seq items n, slots := sl } ∧ R (.ok (.ret (Value.ref l))) s) :=
  .of_wp fun prog w A R s h => by
    obtain ⟨hp, g, d, tk, os⟩ := s
    obtain ⟨hl, h⟩ := h
    have f1 := AutoSeq1.idx_int
    wp_walk using wpAny_loadPart' hl
    exact ⟨_, rfl, h⟩
theorem op_rep1 : OpR X (binaryOp .Mult) (fun x y H Q => ∃ l xs, x = .ref l ∧ y = .int 1 ∧ SqT X.K H l xs ∧ Q (.ref l) H) := by
  intro pins s σ H x y v u Q I rx ry h
  obtain ⟨l, xs, rfl, rfl, hT, q⟩ := h
  cases rx
  obtain ⟨t, rfl⟩ := ry
  obtain ⟨its, r, ⟨⟨cls, dd, data, sl⟩, ho, hc, n, hd⟩, hs⟩ := I.tuple hT
  simp only at hc hd
  subst hc hd
  exact wpAny_binaryOp_repeat_ref (T := "tuple") (U := "int") (by decide) ⟨_, ho, rfl⟩ (fun s' => typeIs_int s' 1 t) noFill_tuple_mul F.fills_int_mul F.slot_int_rmul repeat_tuple F.slot_int_index.lookup
    (call_meets F.slot_int_rmul (typeIs_int s 1 t) F.entry_int_rmul (F.args_int_rmul_2 _ _) (int_rmul_tuple 1 t l its.toArray n dd sl) ⟨ho, rfl, ⟨_, ho, rfl⟩, call_meets F.slot_tuple_mul ⟨_, ho, rfl⟩ F.entry_tuple_mul (F.args_tuple_mul_2 _ _) (tuple_mul1 l its.toArray n dd sl t) ⟨ho, ⟨.ref l, H, I, rfl, q⟩⟩⟩)
theorem VO.mulT1 {xs : List D} (h : Q (.tup xs) M) : VO X (binaryOp .Mult) (.tup xs) (.int 1) M Q :=
  .op op_rep1 fun H F v1 v2 R r1 r2 => by
    cases r2
    cases r1 with
    | @tup a ws _ s r => exact ⟨a, ws, rfl, rfl, R.sub.sqT s, F, M, _, Stp.refl R, .tup s r, h⟩
end
end TL
namespace K82
open PySem PySem.Spec PyProof.Rows L2 TL
open He (ga ma fAd)
theorem part_to {n : Nat} {l : List Nat} (h : PartOk n l) : partB n (.tup (natsD l)) = true := by
  cases l with
  | nil => exact absurd rfl h.ne
  | cons x l =>
    show ((natsD (x :: l)).all (wholeB n) && lessB ((natsD (x :: l)).map intOf)) = true
    rw [Bool.and_eq_true, List.all_eq_true, less_pair]
    refine ⟨fun d hd => ?_, ?_⟩
    · obtain ⟨i, hi, rfl⟩ := List.mem_map.mp hd
      have := h.lt i hi
      simp only [wholeB, Bool.and_eq_true, decide_eq_true_eq]
      omega
    · rw [List.map_map, List.pairwise_map]
      exact h.up.imp fun {a b} q => by
        show (a : Int) < (b : Int)
        omega
theorem bar_to {rows : List (List Nat)} {n : Nat} {b : List Nat × List Nat} (h : BarOk rows n b) : barB rows n (barD b) = true := by
  show (partB rows.length (.tup (natsD b.1)) && partB n (.tup (natsD b.2)) && (natsOf (.tup (natsD b.1))).all fun i => (natsOf (.tup (natsD b.2))).all fun j => upAt rows i j) = true
  rw [part_to h.p, part_to h.e, natsOf_D, natsOf_D, Bool.true_and, Bool.true_and, List.all_eq_true]
  exact fun i hi => List.all_eq_true.mpr fun j hj => h.u i hi j hj
/-- presses of a loom -/
structure PrOk (v : LW) (ts : List (List Nat)) : Prop where
  p : ∀ t ∈ ts, pressT v.lifts.length t = true
abbrev rowsT (v : LW) (ts : List (List Nat)) : List (List Nat) := ts.map (rowP v)
theorem rowsP_T (v : LW) (ts : List (List Nat)) : rowsP v (ts.map D.str) = rowsT v ts := by unfold rowsP; rw [List.map_map]; rfl
theorem up_at {v : LW} {ts : List (List Nat)} {i j : Nat} {t : List Nat} {e : Int} (hi : ts[i]? = some t) (hj : v.ends[j]? = some e) : upAt (rowsT v ts) i j = decide (e ∈ upT v t) := by
  unfold upAt
  have h1 : (rowsT v ts).getD i [] = rowP v t := by rw [List.getD_eq_getElem?_getD, List.getElem?_map, hi]; rfl
  have h2 : (rowP v t).getD j 0 = if e ∈ upT v t then 120 else 45 := by
    unfold rowP pickOf
    rw [List.getD_eq_getElem?_getD, List.getElem?_map, hj]; rfl
  rw [h1, h2]
  by_cases h : e ∈ upT v t <;> simp [h]
theorem mem_upT {v : LW} {t : List Nat} {e : Int} : e ∈ upT v t ↔ ∃ c ∈ t, e ∈ v.lifts.getD (c - 97) [] := by unfold upT; rw [List.mem_flatMap]
theorem treadle_bar {v : LW} {ts : List (List Nat)} {i : Nat} (h : fullBar (treadleBar v ts i) = true) : BarOk (rowsT v ts) v.ends.length (treadleBar v ts i) := by
  unfold fullBar at h
  simp only [Bool.and_eq_true, Bool.not_eq_true', decide_eq_false_iff_not] at h
  have hp : ∀ j ∈ (treadleBar v ts i).1, ∃ t, ts[j]? = some t ∧ 97 + i ∈ t := fun j hj => by
    obtain ⟨t, ht, hq⟩ := mem_ixs.mp hj
    exact ⟨t, ht, of_decide_eq_true hq⟩
  have he : ∀ j ∈ (treadleBar v ts i).2, ∃ e, v.ends[j]? = some e ∧ e ∈ v.lifts.getD i [] := fun j hj => by
    obtain ⟨t, ht, hq⟩ := mem_ixs.mp hj
    exact ⟨t, ht, of_decide_eq_true hq⟩
  refine ⟨⟨h.1, fun j hj => ?_, ixs_lt⟩, ⟨h.2, fun j hj => ?_, ixs_lt⟩, fun p hp2 j hj => ?_⟩
  · obtain ⟨t, ht, _⟩ := hp j hj
    rw [List.length_map]
    exact (List.getElem?_eq_some_iff.mp ht).1
  · obtain ⟨t, ht, _⟩ := he j hj
    exact (List.getElem?_eq_some_iff.mp ht).1
  · obtain ⟨t, ht, hc⟩ := hp p hp2
    obtain ⟨e, hej, hel⟩ := he j hj
    rw [up_at ht hej]
    exact decide_eq_true (mem_upT.mpr ⟨97 + i, hc, by rw [Nat.add_sub_cancel_left]; exact hel⟩)
/-- the bars of the treadles cover what they weave -/
theorem cover_by {v : LW} (ok : v.Ok) {ts : List (List Nat)} (pr : ∀ t ∈ ts, pressT v.lifts.length t = true) : coverB (rowsT v ts) v.ends.length (.tup ((barsBy v ts).map barD)) = true := by
  show (((barsBy v ts).map barD).all (barB (rowsT v ts) v.ends.length) && (ups (rowsT v ts)).all (metB (((barsBy v ts).map barD).map barOf))) = true
  rw [Bool.and_eq_true, List.all_eq_true, List.all_eq_true]
  refine ⟨fun d hd => ?_, fun q hq => ?_⟩
  · obtain ⟨b, hb, rfl⟩ := List.mem_map.mp hd
    obtain ⟨hb1, hb2⟩ := List.mem_filter.mp hb
    obtain ⟨i, _, rfl⟩ := List.mem_map.mp hb1
    exact bar_to (treadle_bar hb2)
  · obtain ⟨h1, h2, h3⟩ := mem_ups.mp hq
    rw [List.length_map] at h1
    have ht := List.getElem?_eq_getElem h1
    have hl : q.2 < v.ends.length := by
      rw [List.getD_eq_getElem?_getD, List.getElem?_map, ht] at h2
      simpa [rowP, pickOf] using h2
    have he := List.getElem?_eq_getElem hl
    rw [up_at ht he] at h3
    obtain ⟨c, hc, hce⟩ := mem_upT.mp (of_decide_eq_true h3)
    have mc : c ∈ alpha.take v.lifts.length := of_decide_eq_true (List.all_eq_true.mp (press_ok (pr _ (List.getElem_mem h1))) c hc)
    obtain ⟨i, hi, rfl⟩ := mem_alpha ok.l1 mc
    rw [Nat.add_sub_cancel_left] at hce
    have m1 : q.1 ∈ (treadleBar v ts i).1 := mem_ixs.mpr ⟨_, ht, decide_eq_true hc⟩
    have m2 : q.2 ∈ (treadleBar v ts i).2 := mem_ixs.mpr ⟨_, he, decide_eq_true hce⟩
    have eb : (barOf ∘ barD) = id := funext fun b => barOf_D b
    rw [List.map_map, eb, List.map_id]
    unfold metB
    rw [List.any_eq_true]
    refine ⟨treadleBar v ts i, List.mem_filter.mpr ⟨List.mem_map.mpr ⟨i, List.mem_range.mpr hi, rfl⟩, ?_⟩, by simp [m1, m2]⟩
    unfold fullBar
    simp only [Bool.and_eq_true, Bool.not_eq_true', decide_eq_false_iff_not]
    exact ⟨List.ne_nil_of_mem m1, List.ne_nil_of_mem m2⟩
/-- single letters weave what the treadling does -/
theorem single_rows (v : LW) (t : List Nat) : rowsP v (t.map sgD) = t.map (rowOf v) := by
  unfold rowsP
  rw [List.map_map]
  refine List.map_congr_left fun c _ => ?_
  show pickOf v.ends (upT v [c]) = pickOf v.ends (v.lifts.getD (c - 97) [])
  have : upT v [c] = v.lifts.getD (c - 97) [] := by simp [upT]
  rw [this]
end K82
end
section
set_option maxRecDepth 100000
set_option maxHeartbeats 0
/-! K82Ze: sixty picks. -/
namespace K82
open PySem PySem.Spec PyProof.Rows L2 TL
open He (ga ma fAd)
theorem w_put3 {v : LW} {ls : List (List Int)} : putG (wO v) (sk "lifts") (.tup (ls.map tupI)) = wO { v with lifts := ls } := by
  have h : ¬ lit "shafts" = lit "lifts" := by decide +kernel
  have h2 : ¬ lit "ends" = lit "lifts" := by decide +kernel
  unfold putG wO
  simp [h, h2]
theorem alpha_small : ∀ c ∈ alpha, c < 128 := by decide +kernel
theorem press_small {m : Nat} {t : List Nat} (h : pressT m t = true) : ∀ c ∈ t, c < 128 := fun c hc => alpha_small c (List.mem_of_mem_take (of_decide_eq_true (List.all_eq_true.mp (press_ok h) c hc)))
theorem presses_vl {m : Nat} {ts : List (List Nat)} (hl : ts.length ≤ 200) (h : ∀ t ∈ ts, pressT m t = true ∧ t.length ≤ 4) : vl 200 (.tup (ts.map D.str)) = true :=
  vl_tupI (by rw [List.length_map]; omega) fun d hd => by
    obtain ⟨t, ht, rfl⟩ := List.mem_map.mp hd
    exact vl_strI (by have := (h t ht).2; omega) (press_small (h t ht).1)
theorem nat_wL {i : Nat} (h : i < 64) : vl 200 (.int (i : Int)) = true ∧ wtD (.int (i : Int)) ≤ 7 ∧ dpD (.int (i : Int)) ≤ 0 := by
  have : ∀ i : Nat, i < 64 → vl 200 (.int (i : Int)) = true ∧ wtD (.int (i : Int)) ≤ 7 ∧ dpD (.int (i : Int)) ≤ 0 := by decide +kernel
  exact this i h
theorem nats_okL {l : List Nat} (hl : l.length ≤ 60) (hn : ∀ i ∈ l, i < 64) : vl 200 (.tup (natsD l)) = true ∧ wtD (.tup (natsD l)) ≤ 480 ∧ dpD (.tup (natsD l)) ≤ 1 := by
  have key : ∀ d ∈ natsD l, vl 200 d = true ∧ wtD d ≤ 7 ∧ dpD d ≤ 0 := fun d hd => by
    obtain ⟨i, hi, rfl⟩ := List.mem_map.mp hd
    exact nat_wL (hn i hi)
  refine ⟨vl_tupI (by rw [List.length_map]; omega) fun d hd => (key d hd).1, ?_, (dpD_tup (p := 0) _).mpr fun d hd => (key d hd).2.2⟩
  rw [wtD_tup]
  have := wt_le fun d hd => (key d hd).2.1
  rw [List.length_map] at this
  omega
theorem bar_okL {b : List Nat × List Nat} (l1 : b.1.length ≤ 60) (l2 : b.2.length ≤ 60) (n1 : ∀ i ∈ b.1, i < 64) (n2 : ∀ i ∈ b.2, i < 64) : vl 200 (barD b) = true ∧ wtD (barD b) ≤ 962 ∧ dpD (barD b) ≤ 2 := by
  obtain ⟨a1, a2, a3⟩ := nats_okL l1 n1
  obtain ⟨b1, b2, b3⟩ := nats_okL l2 n2
  refine ⟨vl_tupI (by show 2 ≤ 200; omega) fun d hd => ?_, ?_, (dpD_tup (p := 1) _).mpr fun d hd => ?_⟩
  · simp only [List.mem_cons, List.not_mem_nil, or_false] at hd
    rcases hd with rfl | rfl
    · exact a1
    · exact b1
  · unfold barD
    rw [wtD_tup, wtAll_cons, wtAll_cons, wtAll_nil]
    omega
  · simp only [List.mem_cons, List.not_mem_nil, or_false] at hd
    rcases hd with rfl | rfl
    · exact a3
    · exact b3
/-- the bars of the treadles as values -/
theorem own_okL {v : LW} (ok : LawW v) {ts : List (List Nat)} (hl : ts.length ≤ 60) : vl 200 (.tup ((barsBy v ts).map barD)) = true ∧ wtD (.tup ((barsBy v ts).map barD)) ≤ 4000 ∧ dpD (.tup ((barsBy v ts).map barD)) ≤ 3 ∧ (barsBy v ts).length ≤ 4 := by
  have e9 := ok.e9
  have l4 := ok.l4
  have bl := barsTo_len v ts (List.range v.lifts.length)
  rw [List.length_range] at bl
  have bl : (barsBy v ts).length ≤ v.lifts.length := bl
  have key : ∀ d ∈ (barsBy v ts).map barD, vl 200 d = true ∧ wtD d ≤ 962 ∧ dpD d ≤ 2 := fun d hd => by
    obtain ⟨b, hb, rfl⟩ := List.mem_map.mp hd
    obtain ⟨hb1, _⟩ := List.mem_filter.mp hb
    obtain ⟨i, _, rfl⟩ := List.mem_map.mp hb1
    refine bar_okL (Nat.le_trans ixs_len hl) (Nat.le_trans ixs_len (by omega)) (fun j hj => ?_) (fun j hj => ?_)
    · obtain ⟨x, hx, _⟩ := mem_ixs.mp hj
      have := (List.getElem?_eq_some_iff.mp hx).1
      omega
    · obtain ⟨x, hx, _⟩ := mem_ixs.mp hj
      have := (List.getElem?_eq_some_iff.mp hx).1
      omega
  refine ⟨vl_tupI (by rw [List.length_map]; omega) fun d hd => (key d hd).1, ?_, (dpD_tup (p := 2) _).mpr fun d hd => (key d hd).2.2, by omega⟩
  rw [wtD_tup]
  have := wt_le fun d hd => (key d hd).2.1
  rw [List.length_map] at this
  have := Nat.mul_le_mul_right 963 (show (barsBy v ts).length ≤ 4 by omega)
  omega
theorem rows_rep {rows : List (List Nat)} {m : Nat} (ok : CW rows m) (h : rows.length ≤ 60) (m9 : m ≤ 9) : RepOk 600 1 (.tup (rows.map D.str)) :=
  (RepOk.tup (n := 9) (p := 0) fun y hy => by
    obtain ⟨r, hr, rfl⟩ := List.mem_map.mp hy
    obtain ⟨h1, h2⟩ := ok.r2 r hr
    exact (RepOk.str fun c hc => by rcases h2 c hc with rfl | rfl <;> omega).mono (by omega) (by omega)).mono (by rw [List.length_map]; omega) (by omega)
theorem pressB_all {m : Nat} {ts : List (List Nat)} (h : ∀ t ∈ ts, pressT m t = true) : ∀ y ∈ ts.map D.str, pressB m y = true := fun y hy => by
  obtain ⟨t, ht, rfl⟩ := List.mem_map.mp hy
  exact h t ht
theorem fault_none_of {m : Nat} {ts : List (List Nat)} (h0 : ts ≠ []) (h : ∀ t ∈ ts, pressT m t = true) : faultP m (.tup (ts.map D.str)) = none := by
  cases ts with
  | nil => exact absurd rfl h0
  | cons t ts => exact fault_none.mpr (pressB_all h)
section
variable {w : World} {K : PySem.W.Frag} {mg : Str → Option Value} {base : Heap} {M : Mp} {Q : DQ}
theorem t_law_long_right (c : E82 w K mg base) {a l : Addr} {k : Dk} (hn : l ≠ a) {n : Nat} (kn : DkN k n) (hd : n < 600000) (h : ∀ k', Q (.bl true) (dkM a l k' M)) :
    TFn P82 w K mg base 8 (ga K "_law_long_right") (fdOf K ("_law_long_right", none)) ["_law_deck_here"] [.ref a] (dkM a l k M) Q := by
  refine TFn.of c.f__law_long_right s__law_long_right rfl fun cdv A outer s H F hr => ?_
  have hs := sizeLine_eq
  have hr1 := hr.mono (j := 1) (by omega)
  have hu1 : (A.deeper (envOfC "_law_long_right" q__law_long_right s.heap.objs.size (ga K "_law_long_right") cdv)).units + 1 < cLine := Nat.lt_of_le_of_lt (Nat.add_le_add_left (by omega) _) hr.room.units
  have lo : Lo (cxOf (L2.CX P82 w) P82 w K mg base n__law_long_right "_law_long_right" q__law_long_right (ga K "_law_long_right") cdv A outer s H (XEnd K H F (dkM a l k M) noX)) 7 := ⟨hr, rfl⟩
  refine .cons <| .setN 1 s__law_long_right.nd <| .call (hr.mono (j := 3) (by omega)) c.g__law_loom c.f__law_loom.kp c.b__law_loom <| .cons <| .var 0 rfl <| .nil <| t_law_loomM c hn kn (by omega) fun v k1 x ok e7 kn1 xa xl hx => ?_
  have atx : ∀ m, dkM a l k1 (mset M x m) x = some m := fun m => by rw [dk_else xa xl, mset_same]
  refine .cons <| .asg <| .slice <| .ix <| .var 1 rfl <| .str <| VI.getM hu1 (atx _) (sk_str _) w_look3 <| .none <| .some <| .int ⟨_, rfl, VS.tup ?_⟩
  rw [show TL.cutD (v.lifts.map tupI) none (some 2) = (v.lifts.take 2).map tupI by rw [show (2 : Int) = ((2 : Nat) : Int) from rfl, cut_take, List.map_take]]
  refine .sub <| .var 1 rfl <| .str <| VT.dic hu1 (atx _) (sk_str _) (by show 3 < sizeLine; decide) ?_
  rw [dk_mset xa xl, mset_mset, w_put3]
  refine .freezeD 1 rfl (atx _) ?_
  rw [dk_mdel xa xl, mdel_mset hx]
  have ok2 : LawW { v with lifts := v.lifts.take 2 } := by
    have l4 := ok.l4
    refine ⟨⟨ok.ok.s1, ok.ok.s2, ok.ok.e0, ok.ok.e1, ok.ok.e2, ?_, by show (v.lifts.take 2).length ≤ 26; rw [List.length_take]; omega, fun y hy => ok.ok.l2 y (List.mem_of_mem_take hy)⟩, ok.s4, ok.e9, by show (v.lifts.take 2).length ≤ 4; rw [List.length_take]; omega⟩
    show v.lifts.take 2 ≠ []
    intro e
    have := ok.ok.l0
    cases hv : v.lifts with
    | nil => exact this hv
    | cons y ys => rw [hv] at e; simp at e
  have e7 : ({ v with lifts := v.lifts.take 2 } : LW).ends.length ≤ 7 := e7
  show WSs _ _ [some (.ref a), some (wD { v with lifts := v.lifts.take 2 }), none, none, none, none] _ _
  generalize ({ v with lifts := v.lifts.take 2 } : LW) = u at *
  refine .cons <| .setN 2 s__law_long_right.nd <| .tuple <| .nil ⟨by show 0 ≤ sizeLine; decide, ?_⟩
  refine .cut (fun ρ M' => ∃ (ts : List (List Nat)) (k' : Dk), ρ = [some (.ref a), some (wD u), some (.tup (ts.map D.str)), none, none, none] ∧ ts.length = 60 ∧ (∀ t ∈ ts, pressT u.lifts.length t = true ∧ t.length ≤ 4) ∧ M' = dkM a l k' M) (WS.while (L2.passes_of rfl) (fun m ρ M' => ∃ (ts : List (List Nat)) (k' : Dk), ρ = [some (.ref a), some (wD u), some (.tup (ts.map D.str)), none, none, none] ∧ ts.length ≤ 60 ∧ m = 60 - ts.length ∧ (∀ t ∈ ts, pressT u.lifts.length t = true ∧ t.length ≤ 4) ∧ DkN k' (n + 100 + 45 * ts.length) ∧ M' = dkM a l k' M) 60 ⟨[], k1, rfl, by simp, rfl, by simp, kn1, rfl⟩ ?_) ?_
  · rintro m ρ M' ⟨ts, k', rfl, tl, rfl, tp, kn', rfl⟩
    refine .cmp <| .callB c.n_len rfl <| .cons <| .var 2 rfl <| .nil <| VC.len (n := ts.length) (by simp [lenD]) <| .int <| VO.lt ⟨_, rfl, fun z => ?_, fun z => ?_⟩
    · have hlt : ts.length < 60 := by have := of_decide_eq_true z; omega
      refine .one <| .setN 2 s__law_long_right.nd <| .slice <| .bin <| .var 2 rfl <| .bin <| .call (hr.mono (j := 3) (by omega)) c.g__law_presses c.f__law_presses.kp c.b__law_presses <| .cons <| .var 0 rfl <| .cons <| .var 1 rfl <| .nil <| t_law_presses c ok2 hn kn' (by omega) fun us k2 u0 u6 up kn2 => ?_
      refine .bin <| .int <| .call hr1 c.g__law_draw c.f__law_draw.kp c.b__law_draw <| .cons <| .var 0 rfl <| .cons <| .int <| .nil <| t_draw c hn (by decide) (by decide) kn2 (by omega) fun y k3 y0 y1 kn3 => VO.add ?_
      have rest : ∀ j : Nat, 1 ≤ j → j ≤ 4 → ∀ Q' : DQ, (∀ rs : List (List Nat), 1 ≤ rs.length → rs.length ≤ 24 → (∀ t ∈ rs, t ∈ us) → Q' (.tup (rs.map D.str)) (dkM a l k3 M)) → VO (cxOf (L2.CX P82 w) P82 w K mg base n__law_long_right "_law_long_right" q__law_long_right (ga K "_law_long_right") cdv A outer s H (XEnd K H F (dkM a l k M) noX)) (binaryOp .Mult) (.tup (us.map D.str)) (.int (j : Int)) (dkM a l k3 M) Q' := by
        intro j j1 j4 Q' hq
        have up0 : 1 ≤ us.length := List.length_pos_iff.mpr u0
        by_cases hj : j = 1
        · subst hj
          exact VO.mulT1 (hq us up0 (by omega) fun t ht => ht)
        · refine VO.mulT (by simpa using u0) (by omega) (by omega) (by rw [List.length_map]; omega) ?_
          have e : (List.replicate (j : Int).toNat (us.map D.str)).flatten = ((List.replicate j us).flatten).map D.str := by
            rw [Int.toNat_natCast, List.map_flatten, List.map_replicate]
          rw [e]
          have el : (List.replicate j us).flatten.length = j * us.length := by simp
          have e1 := Nat.mul_le_mul j1 up0
          have e2 := Nat.mul_le_mul j4 u6
          refine hq _ (by omega) (by omega) fun t ht => ?_
          obtain ⟨z, hz, hzt⟩ := List.mem_flatten.mp ht
          rw [(List.mem_replicate.mp hz).2] at hzt
          exact hzt
      obtain ⟨j, rfl⟩ := Int.eq_ofNat_of_zero_le y0
      rw [show (1 : Int) + (j : Int) = ((j + 1 : Nat) : Int) by omega]
      refine rest (j + 1) (by omega) (by omega) _ fun rs r1 r2 rm => ?_
      refine VO.catT (by rw [List.length_map, List.length_map]; omega) <| .none <| .some <| .int ⟨_, rfl, VS.tup ?_⟩
      rw [← List.map_append, show TL.cutD ((ts ++ rs).map D.str) none (some 60) = ((ts ++ rs).take 60).map D.str by rw [show (60 : Int) = ((60 : Nat) : Int) from rfl, cut_take, List.map_take]]
      have el : ((ts ++ rs).take 60).length = min 60 (ts.length + rs.length) := by rw [List.length_take, List.length_append]
      refine ⟨60 - ((ts ++ rs).take 60).length, by omega, (ts ++ rs).take 60, k3, rfl, by omega, rfl, fun t ht => ?_, kn3.mono (by omega), rfl⟩
      rcases List.mem_append.mp (List.mem_of_mem_take ht) with ht | ht
      · exact tp t ht
      · exact up t (rm t ht)
    · have hlt : ¬ ts.length < 60 := by have := of_decide_eq_false z; omega
      exact ⟨ts, k', rfl, by omega, tp, rfl⟩
  rintro ρ M' ⟨ts, k2, rfl, tl, tp, rfl⟩
  have t0 : ts ≠ [] := by intro e; rw [e] at tl; simp at tl
  have tpr : ∀ t ∈ ts, pressT u.lifts.length t = true := fun t ht => (tp t ht).1
  have tv := presses_vl (by omega) tp
  have cw : CW (rowsT u ts) u.ends.length := by
    have := cwP ok2.ok (xs := ts.map D.str) (by simpa using t0) (by rw [List.length_map]; omega)
    rwa [rowsP_T] at this
  have rl : (rowsT u ts).length = 60 := by rw [List.length_map]; exact tl
  obtain ⟨ov, ow, op, ol⟩ := own_okL ok2 (ts := ts) (by omega)
  have hfn := fault_none_of t0 tpr
  have hpb : pressesB u.lifts.length (.tup (ts.map D.str)) = true := by rw [← fault_presses, hfn]; rfl
  refine .cons <| .par3 3 4 5 rfl s__law_long_right.nd <| .cons <| WE.make c.mk_Loom (k := 4) (hr.mono (j := 5) (by omega)) c.g_Loom c.b_Loom_init <| .cons <| .ix <| .var 1 rfl <| .str <| VI.get hu1 (sk_str _) w_look1 <| .cons <| .ix <| .var 1 rfl <| .str <| VI.get hu1 (sk_str _) w_look2 <| .cons <| .ix <| .var 1 rfl <| .str <| VI.get hu1 (sk_str _) w_look3 <| .nil fun z hz => t_Loom_init c ok2.ok hz ?_
  refine .cons <| .call (hr.mono (j := 1) (by omega)) c.g__law_bars c.f__law_bars.kp c.b__law_bars <| .cons <| .var 1 rfl <| .cons <| .var 2 rfl <| .nil <| t_law_bars c ok2.ok (by omega) ?_
  refine .cons <| .call (hr.mono (j := 1) (by omega)) c.g__law_woven c.f__law_woven.kp c.b__law_woven <| .cons <| .var 1 rfl <| .cons <| .var 2 rfl <| .nil <| t_law_woven c ok2.ok (by rw [List.length_map]; omega) (pressB_all tpr) (fun y hy => ?_) <| .nil ⟨_, _, _, rfl, ?_⟩
  · obtain ⟨t, ht, rfl⟩ := List.mem_map.mp hy
    have := (tp t ht).2
    show t.length ≤ 1000
    omega
  rw [rowsP_T]
  have rr := rows_rep cw (by omega) (by omega)
  have ro : RepOk 4000 3 (.tup ((barsBy u ts).map barD)) := .of (n := 200) (by omega) ov ow op
  refine .skip <| .ww <| .or <| .cmp <| .call (hr.mono (j := 3) (by omega)) c.g_are_presses c.f_are_presses.kp c.b_are_presses <| .cons <| .var 3 rfl <| .cons <| .var 2 rfl <| .nil <| t_are_presses c tv (by omega) <| .bl <| VO.notBl ⟨_, rfl, by rw [hpb]; simp, fun _ => ?_⟩
  refine .or1 <| .cmp <| .callB c.n_repr rfl <| .cons <| .fld <| .call (hr.mono (j := 6) (by omega)) c.g_woven_pressed c.f_woven_pressed.kp c.b_woven_pressed <| .cons <| .var 3 rfl <| .cons <| .var 2 rfl <| .nil <| t_woven_pressed c ok2.ok tv (by omega) (fun _ => ⟨_, _, _, rfl, c.cls_Cloth, c.no_Cloth_picks, by rfl, ?_⟩) (fun i hi => by rw [hfn] at hi; cases hi)
  show WA _ _ _ _ _
  rw [show itemsOf (.tup (ts.map D.str)) = ts.map D.str from rfl, rowsP_T]
  refine .nil <| VC.reprO lo c.sys rr (by omega) (by omega) <| .callB c.n_repr rfl <| .cons <| .var 5 rfl <| .nil <| VC.reprO lo c.sys rr (by omega) (by omega) <| VO.neS ⟨_, rfl, by simp, ?_⟩
  have hcov := cover_by ok2.ok tpr
  refine .skip <| .ww <| .or <| .cmp <| .callB c.n_repr rfl <| .cons <| .call (hr.mono (j := 3) (by omega)) c.g_bars_by c.f_bars_by.kp c.b_bars_by <| .cons <| .var 3 rfl <| .cons <| .var 2 rfl <| .nil <| t_bars_by c ok2.ok (by omega) <| .nil <| VC.reprO lo c.sys ro (by omega) (by omega) <| .callB c.n_repr rfl <| .cons <| .var 4 rfl <| .nil <| VC.reprO lo c.sys ro (by omega) (by omega) <| VO.neS ⟨_, rfl, by simp, fun _ => ?_⟩
  refine .or1 <| .cmp <| .call (hr.mono (j := 4) (by omega)) c.g_do_cover c.f_do_cover.kp c.b_do_cover <| .cons <| WE.make c.mk_Cloth (k := 3) (hr.mono (j := 4) (by omega)) c.g_Cloth c.b_Cloth_init <| .cons <| .var 5 rfl <| .nil fun z hz => t_Cloth_init c cw hz <| .cons <| .var 4 rfl <| .nil <| t_do_cover c cw ov (by omega) <| .bl <| VO.notBl ⟨_, rfl, by rw [hcov]; simp, ?_⟩
  have c1 : TL.cutD ((barsBy u ts).map barD) (some 1) none = ((barsBy u ts).map barD).drop 1 := by rw [show (1 : Int) = ((1 : Nat) : Int) from rfl, cut_drop]
  have ov1 : vl 200 (.tup (((barsBy u ts).map barD).drop 1)) = true := by
    obtain ⟨z1, z2⟩ := vl_tup ov
    exact vl_tupI (by rw [List.length_drop]; omega) fun d hd => z2 d (List.mem_of_mem_drop hd)
  refine .one <| .ret <| .cmp <| .call (hr.mono (j := 4) (by omega)) c.g_do_cover c.f_do_cover.kp c.b_do_cover <| .cons <| WE.make c.mk_Cloth (k := 3) (hr.mono (j := 4) (by omega)) c.g_Cloth c.b_Cloth_init <| .cons <| .var 5 rfl <| .nil fun z hz => t_Cloth_init c cw hz <| .cons <| .slice <| .var 4 rfl <| .some <| .int ⟨_, rfl, .none <| VS.tup ?_⟩
  rw [c1]
  refine .nil <| t_do_cover c cw ov1 (by omega) <| .call (hr.mono (j := 4) (by omega)) c.g__law_is_cover c.f__law_is_cover.kp c.b__law_is_cover <| .cons <| .var 5 rfl <| .cons <| .slice <| .var 4 rfl <| .some <| .int ⟨_, rfl, .none <| VS.tup ?_⟩
  rw [c1]
  refine .nil <| t_law_is_cover c cw (by omega) (by omega) ov1 (by omega) <| VO.eqB ?_
  rw [decide_eq_true rfl]
  exact h k2
end
end K82
end
section
set_option maxRecDepth 100000
set_option maxHeartbeats 0
/-! K82Zf: the law. -/
namespace K82
open PySem PySem.Spec PyProof.Rows L2 TL
open He (ga ma fAd)
theorem own_okS {v : LW} (e7 : v.ends.length ≤ 7) {ts : List (List Nat)} (hl : ts.length ≤ 6) : ∀ b ∈ barsBy v ts, BarS b := fun b hb => by
  obtain ⟨hb1, _⟩ := List.mem_filter.mp hb
  obtain ⟨i, _, rfl⟩ := List.mem_map.mp hb1
  refine ⟨Nat.le_trans ixs_len (by omega), Nat.le_trans ixs_len e7, fun j hj => ?_, fun j hj => ?_⟩
  · obtain ⟨x, hx, _⟩ := mem_ixs.mp hj
    have := (List.getElem?_eq_some_iff.mp hx).1
    omega
  · obtain ⟨x, hx, _⟩ := mem_ixs.mp hj
    have := (List.getElem?_eq_some_iff.mp hx).1
    omega
/-- a value of a level -/
structure Lv (n N p : Nat) (d : D) : Prop where
  v : vl n d = true
  w : wtD d ≤ N
  p : dpD d ≤ p
theorem Lv.mono {n m N N' p q : Nat} {d : D} (h : Lv n N p d) (a : n ≤ m) (b : N ≤ N') (c : p ≤ q) : Lv m N' q d := ⟨vl_mono a h.v, Nat.le_trans h.w b, Nat.le_trans h.p c⟩
theorem presses_lv {m : Nat} {ts : List (List Nat)} (hl : ts.length ≤ 6) (h : ∀ t ∈ ts, pressT m t = true ∧ t.length ≤ 4) : Lv 200 30 1 (.tup (ts.map D.str)) := by
  refine ⟨presses_vl (by omega) h, ?_, (dpD_tup (p := 0) _).mpr fun d hd => ?_⟩
  · rw [wtD_tup]
    have := wt_le (N := 4) (ds := ts.map D.str) fun d hd => by
      obtain ⟨t, ht, rfl⟩ := List.mem_map.mp hd
      rw [wtD_str]
      exact (h t ht).2
    rw [List.length_map] at this
    omega
  · obtain ⟨t, ht, rfl⟩ := List.mem_map.mp hd
    simp [dpD, rpy, PyData.depth]
def someL : List D := [.non, .tup [], .lst [], .str (lit "a"), .tup [.str (lit "ba")], .tup [.str (lit "aa")], .tup [.str (lit "")], .tup [.str (lit "z")], .tup [.str (lit ""), .str (lit "A")], .tup [.str (lit ""), .int 0]]
theorem some_ok : ∀ d ∈ someL, Lv 200 100 5 d := by
  have : (someL.all fun d => vl 200 d && decide (wtD d ≤ 100) && decide (dpD d ≤ 5)) = true := by decide +kernel
  intro d hd
  have := List.all_eq_true.mp this d hd
  simp only [Bool.and_eq_true, decide_eq_true_eq] at this
  exact ⟨this.1.1, this.1.2, this.2⟩
section
variable {w : World} {K : PySem.W.Frag} {mg : Str → Option Value} {base : Heap} {M : Mp} {Q : DQ}
theorem t_law (c : E82 w K mg base) {ns : List Int} (hl : ns.length ≤ 63) (h : ∀ M', Q (.bl true) M') :
    TFn P82 w K mg base 12 (ga K "law") (fdOf K ("law", none)) ["_law_script"] [.lst (ns.map D.int)] M Q := by
  refine TFn.of c.f_law s_law rfl fun cdv A outer s H F hr => ?_
  have hs := sizeLine_eq
  have hr1 := hr.mono (j := 1) (by omega)
  have hu1 : (A.deeper (envOfC "law" q_law s.heap.objs.size (ga K "law") cdv)).units + 1 < cLine := Nat.lt_of_le_of_lt (Nat.add_le_add_left (by omega) _) hr.room.units
  have hu0 : (A.deeper (envOfC "law" q_law s.heap.objs.size (ga K "law") cdv)).units < cLine := Nat.lt_of_le_of_lt (Nat.le_add_right _ 64) hr.room.units
  have lo : Lo (cxOf (L2.CX P82 w) P82 w K mg base n_law "law" q_law (ga K "law") cdv A outer s H (XEnd K H F M noX)) 11 := ⟨hr, rfl⟩
  refine .cons <| .setN 1 s_law.nd <| .call hr1 c.g__law_deck c.f__law_deck.kp c.b__law_deck <| .cons <| .var 0 rfl <| .nil <| t_law_deck c hl fun a l k hn ha hl' kn => ?_
  refine .cons <| .for (L2.passes_of rfl) rfl ?_
  refine WI.range1 c.n_range <| .int ⟨_, rfl, by decide, by decide, ?_⟩
  unfold rng
  refine ForT.map (fun (i : Nat) => D.int (0 + (i : Int))) (fun pre ρ M2 => (∃ x2 x3 x4 x5 x6 x7 x8 x10 x11 x12, ρ = [some (.lst (ns.map D.int)), some (.ref a), x2, x3, x4, x5, x6, x7, x8, none, x10, x11, x12, none]) ∧ ∃ k', DkN k' (1500 * pre.length) ∧ M2 = dkM a l k' M) ?_ ?_ ⟨⟨_, _, _, _, _, _, _, _, _, _, rfl⟩, k, kn.mono (by omega), rfl⟩
  · rintro pre i post ρ M2 el ⟨⟨x2, x3, x4, x5, x6, x7, x8, x10, x11, x12, rfl⟩, k', kn', rfl⟩
    have hpl : pre.length < 3 := by
      have := congrArg List.length el
      simp at this; omega
    refine .nameN 2 s_law.nd ?_
    refine .cons <| .setN 3 s_law.nd <| .call (hr.mono (j := 3) (by omega)) c.g__law_loom c.f__law_loom.kp c.b__law_loom <| .cons <| .var 1 rfl <| .nil <| t_law_loom c hn kn' (by omega) fun v k1 ok e7 kn1 => ?_
    refine .cons <| .asg <| .tuple <| .cons <| WE.make c.mk_Loom (k := 4) (hr.mono (j := 5) (by omega)) c.g_Loom c.b_Loom_init <| .cons <| .ix <| .var 3 rfl <| .str <| VI.get hu1 (sk_str _) w_look1 <| .cons <| .ix <| .var 3 rfl <| .str <| VI.get hu1 (sk_str _) w_look2 <| .cons <| .ix <| .var 3 rfl <| .str <| VI.get hu1 (sk_str _) w_look3 <| .nil fun z hz => t_Loom_init c ok.ok hz ?_
    refine .cons <| .call (hr.mono (j := 3) (by omega)) c.g__law_presses c.f__law_presses.kp c.b__law_presses <| .cons <| .var 1 rfl <| .cons <| .var 3 rfl <| .nil <| t_law_presses c ok hn kn1 (by omega) fun ts k2 t0 t6 tp kn2 => .nil ⟨by show 2 ≤ sizeLine; decide, .tup rfl <| .cons <| .nameN 4 s_law.nd <| .cons <| .nameN 5 s_law.nd <| .nil ?_⟩
    have tpr : ∀ t ∈ ts, pressT v.lifts.length t = true := fun t ht => (tp t ht).1
    have tlv := presses_lv t6 tp
    have tv := tlv.v
    have cw : CW (rowsT v ts) v.ends.length := by
      have := cwP ok.ok (xs := ts.map D.str) (by simpa using t0) (by rw [List.length_map]; omega)
      rwa [rowsP_T] at this
    have rl : (rowsT v ts).length = ts.length := List.length_map ..
    obtain ⟨ov, ow, op, ol⟩ := own_okL ok (ts := ts) (by omega)
    have hfn := fault_none_of t0 tpr
    have ro : RepOk 4000 3 (.tup ((barsBy v ts).map barD)) := .of (n := 200) (by omega) ov ow op
    refine .cons <| .par 6 7 rfl s_law.nd <| .cons <| .call hr1 c.g__law_woven c.f__law_woven.kp c.b__law_woven <| .cons <| .var 3 rfl <| .cons <| .var 5 rfl <| .nil <| t_law_woven c ok.ok (by rw [List.length_map]; omega) (pressB_all tpr) (fun y hy => ?_) ?_
    · obtain ⟨t, ht, rfl⟩ := List.mem_map.mp hy
      have := (tp t ht).2
      show t.length ≤ 1000
      omega
    rw [rowsP_T]
    refine .cons <| .call hr1 c.g__law_bars c.f__law_bars.kp c.b__law_bars <| .cons <| .var 3 rfl <| .cons <| .var 5 rfl <| .nil <| t_law_bars c ok.ok (by omega) <| .nil ⟨_, _, rfl, ?_⟩
    have r2 : RepOk 8100 4 (.lst [.tup ((barsBy v ts).map barD), .tup ((barsBy v ts).map barD)]) := (RepOk.lst (n := 4000) (p := 3) fun d hd => by
      simp only [List.mem_cons, List.not_mem_nil, or_false, or_self] at hd
      rw [hd]; exact ro).mono (by simp) (by omega)
    refine .skip <| .cmp <| .callB c.n_repr rfl <| .cons <| .list <| .cons <| .call (hr.mono (j := 3) (by omega)) c.g_bars_by c.f_bars_by.kp c.b_bars_by <| .cons <| .var 4 rfl <| .cons <| .var 5 rfl <| .nil <| t_bars_by c ok.ok (by omega) <| .cons <| WE.callKw true (hr.mono (j := 3) (by omega)) c.g_bars_by c.f_bars_by.kp c.k_bars_by rfl <| .cons <| .var 5 rfl <| .cons <| .var 4 rfl <| .nil <| t_bars_by c ok.ok (by omega) <| .nil ⟨by show 2 ≤ sizeLine; decide, ?_⟩
    refine .nil <| VC.reprO lo c.sys r2 (by omega) (by omega) <| .callB c.n_repr rfl <| .cons <| .list <| .cons <| .var 7 rfl <| .cons <| .var 7 rfl <| .nil ⟨by show 2 ≤ sizeLine; decide, .nil <| VC.reprO lo c.sys r2 (by omega) (by omega) <| VO.neS ⟨_, rfl, by simp, ?_⟩⟩
    have hcov := cover_by ok.ok tpr
    refine .skip <| .cmp <| .call (hr.mono (j := 4) (by omega)) c.g_do_cover c.f_do_cover.kp c.b_do_cover <| .cons <| .call (hr.mono (j := 6) (by omega)) c.g_woven_pressed c.f_woven_pressed.kp c.b_woven_pressed <| .cons <| .var 4 rfl <| .cons <| .var 5 rfl <| .nil <| t_woven_pressed c ok.ok tv (by omega) (fun _ => ?_) (fun i hi => by rw [hfn] at hi; cases hi)
    rw [show itemsOf (.tup (ts.map D.str)) = ts.map D.str from rfl, rowsP_T]
    refine .cons <| .var 7 rfl <| .nil <| t_do_cover c cw ov (by omega) <| .bl <| VO.notBl ⟨_, rfl, by rw [hcov]; simp, ?_⟩
    -- single letters
    refine .cons <| .setN 8 s_law.nd <| .bm PySem.F.plainAttrs_str PySem.F.slot_str_join PySem.F.type_str_join <| .str ⟨.str, .cons ?_⟩
    refine WE.lc1 9 [("_law_press", 9)] rfl s_law.nd (show BlkOk n_law q_law _ _ from ⟨rfl, by decide +kernel, by decide +kernel, by decide +kernel, by decide +kernel⟩) ?_
    refine WI.tup <| .var 5 rfl ⟨_, rfl, ?_⟩
    refine CompT.filter (fun d => decide ((txtOf d).length = 1)) (fun d => d) (fun y hy => ?_) (by rw [List.length_nil, List.length_map]; omega) ?_
    · obtain ⟨t, ht, rfl⟩ := List.mem_map.mp hy
      refine ⟨_, rfl, fun s H C cl fp => .cmp <| .callB c.n_len rfl <| .cons <| .var 9 rfl <| .nil <| VC.len (n := t.length) (by have := (tp t ht).2; simp [lenD]; omega) <| .int <| VO.eqI ⟨_, rfl, ?_, rfl⟩, fun _ s H C cl fp => .var 9 rfl ⟨rfl, rfl⟩⟩
      show decide ((t.length : Int) = 1) = decide (t.length = 1)
      by_cases h1 : t.length = 1
      · simp [h1]
      · have : ¬ ((t.length : Int) = 1) := by omega
        simp [h1, this]
    have ef : (((ts.map D.str).filter fun d => decide ((txtOf d).length = 1)).map fun d => d) = (ts.filter fun t => decide (t.length = 1)).map D.str := by
      rw [List.map_id', List.filter_map]
      rfl
    rw [List.nil_append, ef]
    have fl : ∀ t ∈ ts.filter (fun t => decide (t.length = 1)), t.length = 1 ∧ pressT v.lifts.length t = true := fun t ht => ⟨of_decide_eq_true (List.mem_filter.mp ht).2, tpr t (List.mem_filter.mp ht).1⟩
    have fn : (ts.filter fun t => decide (t.length = 1)).length ≤ 6 := Nat.le_trans (List.length_filter_le _ _) t6
    generalize ts.filter (fun t => decide (t.length = 1)) = fs at *
    have sm : (fs.map List.length).sum ≤ 6 := by
      have : ∀ l : List (List Nat), (∀ t ∈ l, t.length = 1) → (l.map List.length).sum = l.length := by
        intro l
        induction l with
        | nil => intro _; rfl
        | cons t l ih => intro h9; rw [List.map_cons, List.sum_cons, ih (fun x hx => h9 x (List.mem_cons_of_mem t hx)), h9 t (List.mem_cons_self ..), List.length_cons]; omega
      rw [this fs fun t ht => (fl t ht).1]
      exact fn
    refine .nil <| VM.joinL (by omega) ?_
    have pl : fs.flatten.length ≤ 6 := by rw [List.length_flatten]; exact sm
    have pm : ∀ x ∈ fs.flatten, x ∈ alpha.take v.lifts.length := fun x hx => by
      obtain ⟨t, ht, hxt⟩ := List.mem_flatten.mp hx
      exact of_decide_eq_true (List.all_eq_true.mp (press_ok (fl t ht).2) x hxt)
    generalize fs.flatten = pn at *
    have pok : okTr v pn = true := List.all_eq_true.mpr fun x hx => decide_eq_true (pm x hx)
    have ps1 : ∀ t ∈ pn.map (fun x => [x]), pressT v.lifts.length t = true ∧ t.length ≤ 4 := fun t ht => by
      obtain ⟨x, hx, rfl⟩ := List.mem_map.mp ht
      exact ⟨sublist_press ok.ok.l1 (List.singleton_sublist.mpr (pm x hx)), by simp⟩
    have pe : pn.map (fun x => D.str [x]) = (pn.map fun x => [x]).map D.str := by rw [List.map_map]; rfl
    refine .cut (fun ρ' M' => ρ' = [some (.lst (ns.map D.int)), some (.ref a), some (.int (0 + (i : Int))), some (wD v), some (loomD K v), some (.tup (ts.map D.str)), some (.tup ((rowsT v ts).map D.str)), some (.tup ((barsBy v ts).map barD)), some (.str pn), none, x10, x11, x12, none] ∧ M' = dkM a l k2 M) (.ite <| .ww <| .and <| .cmp <| .var 8 rfl <| .str <| VO.neS ⟨_, rfl, fun z => ⟨fun z => (nomatch z), fun _ => .done ⟨rfl, rfl⟩⟩, fun z => ?_⟩) ?_
    · have pn0 : pn ≠ [] := fun e => by rw [e] at z; simp [lit] at z
      refine .and1 <| .cmp <| .call (hr.mono (j := 6) (by omega)) c.g_woven_pressed c.f_woven_pressed.kp c.b_woven_pressed <| .cons <| .var 4 rfl <| .cons <| .callTy c.n_tuple rfl <| .cons <| .var 8 rfl <| .nil <| VC.tupleS rfl (by omega) ?_
      rw [pe]
      have pfn := fault_none_of (ts := pn.map fun x => [x]) (by simpa using pn0) fun t ht => (ps1 t ht).1
      refine .nil <| t_woven_pressed c ok.ok (presses_vl (by rw [List.length_map]; omega) ps1) (by omega) (fun _ => ?_) (fun i hi => by rw [pfn] at hi; cases hi)
      rw [show itemsOf (.tup ((pn.map fun x => [x]).map D.str)) = (pn.map fun x => [x]).map D.str from rfl, ← pe]
      have es := single_rows v pn
      rw [show rowsP v (pn.map fun x => D.str [x]) = pn.map (rowOf v) from es]
      have cw2 : CW (pn.map (rowOf v)) v.ends.length := by
        have := cwP ok.ok (xs := pn.map sgD) (by simpa using pn0) (by rw [List.length_map]; omega)
        rwa [es] at this
      refine .call (hr.mono (j := 6) (by omega)) c.g_woven c.f_woven.kp c.b_woven <| .cons <| .var 4 rfl <| .cons <| .var 8 rfl <| .nil <| t_woven c ok.ok pn0 (by omega) pok ?_
      exact VO.neOwn (hr.mono (j := 2) (by omega)) c.ne_Cloth c.b_Cloth_eq <| t_Cloth_eq c cw2 cw2 ⟨_, rfl, _, rfl, by simp, fun _ => .done ⟨rfl, rfl⟩⟩
    rintro ρ' M' ⟨rfl, rfl⟩
    -- values
    refine .cons <| .setN 10 s_law.nd <| .var 5 rfl ?_
    refine .cons <| .for (L2.passes_of rfl) rfl ?_
    refine WI.range1 c.n_range <| .int ⟨_, rfl, by decide, by decide, ?_⟩
    unfold rng
    refine ForT.map (fun (i : Nat) => D.int (0 + (i : Int))) (fun pre2 ρ M' => ∃ (d : D) (x11 : Option D) (k3 : Dk), ρ = [some (.lst (ns.map D.int)), some (.ref a), some (.int (0 + (i : Int))), some (wD v), some (loomD K v), some (.tup (ts.map D.str)), some (.tup ((rowsT v ts).map D.str)), some (.tup ((barsBy v ts).map barD)), some (.str pn), none, some d, x11, x12, none] ∧ (pre2.length % 3 = 1 → Lv 202 260 3 d) ∧ Lv 204 720 5 d ∧ DkN k3 (1500 * pre.length + 140 + 20 * pre2.length) ∧ M' = dkM a l k3 M) ?_ ?_ ⟨_, _, k2, rfl, fun _ => tlv.mono (by omega) (by omega) (by omega), tlv.mono (by omega) (by omega) (by omega), kn2.mono (by simp only [List.length_nil]; omega), rfl⟩
    · rintro pre2 j post2 ρ M' e2 ⟨d, x11, k3, rfl, d1, d2, kn3, rfl⟩
      obtain ⟨hp2, hj⟩ := range_at e2
      have hj6 : j < 6 := hj
      refine .nameN 11 s_law.nd ?_
      refine .skip <| .not <| .val <| .call (hr.mono (j := 8) (by omega)) c.g__law_value_right c.f__law_value_right.kp c.b__law_value_right <| .cons <| .var 3 rfl <| .cons <| .var 4 rfl <| .cons <| .var 10 rfl <| .cons <| .cmp <| .bin <| .var 11 rfl <| .int <| VO.modG (by decide) fun r _ _ => .int <| VO.eqI <| .nil <| t_law_value_right c ok d2.v (by omega) (by have := d2.w; omega) (by have := d2.p; omega) ⟨_, rfl, rfl, ?_⟩
      have nxt : ∀ d', Bent 200 (.tup (ts.map D.str)) d' → Lv 202 260 3 d' := fun d' bd => ⟨bd.v, by have := bd.w; have := tlv.w; omega, by have := bd.p; have := tlv.p; omega⟩
      refine .one <| .setN 10 s_law.nd <| .call (hr.mono (j := 6) (by omega)) c.g__law_bent c.f__law_bent.kp c.b__law_bent <| .cons <| .var 1 rfl <| .cons <| .ife <| .cmp <| .bin <| .var 11 rfl <| .int <| VO.mod (by decide) <| .int <| VO.eqI ⟨_, rfl, fun z => ?_, fun z => ?_⟩
      · have z3 : pre2.length % 3 = 1 := by have := of_decide_eq_true z; omega
        have l1 := d1 z3
        refine .var 10 rfl <| .cons <| .int <| .nil ?_
        refine t_law_bent c hn (n := 202) (by omega) (by omega) 2 l1.v kn3 (by omega) fun d' k4 bd kn4 => ⟨d', _, k4, rfl, fun z4 => ?_, ⟨bd.v, by have := bd.w; have := l1.w; omega, by have := bd.p; have := l1.p; omega⟩, kn4.mono (by rw [List.length_append, List.length_singleton]; omega), rfl⟩
        rw [List.length_append, List.length_singleton] at z4
        omega
      · refine .var 5 rfl <| .cons <| .int <| .nil ?_
        refine t_law_bent c hn (n := 200) (by omega) (by omega) 2 tv kn3 (by omega) fun d' k4 bd kn4 => ⟨d', _, k4, rfl, fun _ => nxt d' bd, (nxt d' bd).mono (by omega) (by omega) (by omega), kn4.mono (by rw [List.length_append, List.length_singleton]; omega), rfl⟩
    rintro ρ M' ⟨d, x11', k3, rfl, _, _, kn3, rfl⟩
    rw [List.length_range] at kn3
    refine ⟨_, Le.refl _, ?_⟩
    -- values by hand
    refine .cons <| .setN 12 s_law.nd <| .list <| .cons <| .non <| .cons <| .tuple <| .nil ⟨by show 0 ≤ sizeLine; decide, .cons <| .list <| .nil ⟨by show 0 ≤ sizeLine; decide, .cons <| .str <| .cons <| .tuple <| .cons <| .str <| .nil ⟨by show 1 ≤ sizeLine; decide, .cons <| .tuple <| .cons <| .str <| .nil ⟨by show 1 ≤ sizeLine; decide, ?_⟩⟩⟩⟩
    refine .cons <| .tuple <| .cons <| .str <| .nil ⟨by show 1 ≤ sizeLine; decide, .cons <| .tuple <| .cons <| .str <| .nil ⟨by show 1 ≤ sizeLine; decide, .cons <| .tuple <| .cons <| .str <| .cons <| .str <| .nil ⟨by show 2 ≤ sizeLine; decide, .cons <| .tuple <| .cons <| .str <| .cons <| .int <| .nil ⟨by show 2 ≤ sizeLine; decide, .nil ⟨by show 10 ≤ sizeLine; decide, ?_⟩⟩⟩⟩⟩
    show WSs _ _ [some (.lst (ns.map D.int)), some (.ref a), some (.int (0 + (i : Int))), some (wD v), some (loomD K v), some (.tup (ts.map D.str)), some (.tup ((rowsT v ts).map D.str)), some (.tup ((barsBy v ts).map barD)), some (.str pn), none, some d, x11', some (.lst someL), none] _ _
    refine .skip <| .cmp ?_
    refine WE.lc1 13 [("_law_bad", 13)] rfl s_law.nd (show BlkOk n_law q_law _ _ from ⟨rfl, by decide +kernel, by decide +kernel, by decide +kernel, by decide +kernel⟩) ?_
    refine WI.list <| .var 12 rfl ⟨_, rfl, ?_⟩
    refine CompT.filter (fun _ => false) (fun d => d) (fun y hy => ?_) (by show 0 + 10 ≤ sizeLine; decide) ?_
    · have sv := some_ok y hy
      exact ⟨_, rfl, fun s H C cl fp => .not <| .val <| .call (hr.mono (j := 8) (by omega)) c.g__law_value_right c.f__law_value_right.kp c.b__law_value_right <| .cons <| .var 3 rfl <| .cons <| .var 4 rfl <| .cons <| .var 13 rfl <| .cons <| .bl <| .nil <| t_law_value_right c ok sv.v (by omega) (by have := sv.w; omega) (by have := sv.p; omega) ⟨_, rfl, rfl, rfl⟩, fun z => nomatch z⟩
    refine .list <| .nil ⟨by show 0 ≤ sizeLine; decide, VO.neL0 hu0 ⟨_, rfl, by simp, ?_⟩⟩
    refine .skip <| .not <| .val <| .call (hr.mono (j := 11) (by omega)) c.g__law_cover_right c.f__law_cover_right.kp c.b__law_cover_right <| .cons <| .var 1 rfl <| .cons <| .var 6 rfl <| .cons <| .var 7 rfl <| .nil <| t_law_cover_right c cw (by omega) e7 ol (own_okS e7 t6) hn kn3 (by omega) fun k4 kn4 => ⟨_, rfl, rfl, .done ⟨⟨_, _, _, _, _, _, _, _, _, _, rfl⟩, k4, by rw [List.length_append]; exact kn4.mono (by simp; omega), rfl⟩⟩
  rintro ρ M2 ⟨⟨x2, x3, x4, x5, x6, x7, x8, x10, x11, x12, rfl⟩, k', kn', rfl⟩
  rw [List.length_range] at kn'
  refine ⟨_, Le.refl _, ?_⟩
  refine .one <| .ret <| .or <| .cmp <| .call hr1 c.g__law_draw c.f__law_draw.kp c.b__law_draw <| .cons <| .var 1 rfl <| .cons <| .int <| .nil <| t_draw c hn (by decide) (by decide) kn' (by omega) fun y k1 y0 y1 kn1 => .int <| VO.gt ⟨_, rfl, fun _ => h _, fun _ => ?_⟩
  exact .one <| .call (hr.mono (j := 8) (by omega)) c.g__law_long_right c.f__law_long_right.kp c.b__law_long_right <| .cons <| .var 1 rfl <| .nil <| t_law_long_right c hn kn1 (by omega) fun k2 => h _
end
end K82
end
section
open PySem PySem.W PySem.Calls PyProof.Rows
set_option maxRecDepth 100000 in
set_option maxHeartbeats 0 in
theorem PySem.Challenge.cw_loomhold_k82_presses_and_bars_of_any_val_holds : PySem.Challenge.rw_loomhold_k82_presses_and_bars_of_any_val.Holds := by
  w_on; o_law
  refine HandSHeadRun.head_any (r := OpenLaw.row PySem.Challenge.rw_loomhold_k82_presses_and_bars_of_any_val) (q := view (OpenLaw.row PySem.Challenge.rw_loomhold_k82_presses_and_bars_of_any_val).prog [62]) (H := K82.hk) (ob := K82.ob) (M := 8000) (loose := K82.loose) (d := HandSHeadRun.topDef (OpenLaw.row PySem.Challenge.rw_loomhold_k82_presses_and_bars_of_any_val).prog 62) (kwd := []) K82.ob_eq
    (by kernel_rfl) (fun s => by kernel_rfl) K82.run (by kernel_rfl) (by kernel_rfl) (by kernel_rfl) (by rfl) (by first | assumption | decide +kernel) (by decide +kernel) ⟨rfl, rfl, rfl, rfl, rfl, by decide +kernel⟩ ?hw ?hc
  case hw => w_witness2
  case hc =>
    refine TL.walkT (l := PySem.Challenge.rw_loomhold_k82_presses_and_bars_of_any_val) (n := 63) (k := 12) (x := "_law_script") rfl (by decide) (by kernel_rfl) ⟨rfl, by decide, by decide⟩ ?F
    intro w mg fa h Y G hmg0
    obtain ⟨K, KX, c⟩ := Y
    have hmg : mg ("law" : PySem.Str) = some (.ref fa) := by
      have e : (HandSHeadRun.topDef (OpenLaw.row PySem.Challenge.rw_loomhold_k82_presses_and_bars_of_any_val).prog 62).name = ("law" : PySem.Str) := by kernel_rfl
      rw [← e]
      exact hmg0
    have E : K82.E82 w K mg h := ⟨KX, G, c⟩
    have e := hmg.symm.trans E.g_law
    cases e
    have b := L2.FunD.bindsA (ps := ["_law_script"]) E.f_law fun _ _ _ _ _ _ us hl => match us, hl with | [_], _ => rfl
    exact ⟨K, _, KX, E.noLst, fun s u => b s [u] rfl, fun ns hl base kb nb => K82.t_law ⟨kb, nb, c⟩ hl fun _ => rfl⟩
end
