import PyProof.Rows.All
import Wide.All
import OpenK.AllK
import Wide.FinOn
import HandS.ForMost
import KE.KDictKeyed
import KE.GoesEnum
import KE.GoesMore
import HandS.Zip
import HandS.More
import HandS.Deep
import HandS.TupAny
import HandS.TupMul
import HandS.TupLe
import HandS.Style
import HandS.Sort
import HandS.SortInts
import HandS.Wide
import HandS.IsInst
import HandS.WordsDict
import HandS.Replace
import HandS.FStr
import HandS.Exc
import HandS.Words
import HandS.Defaults
import HandS.OwnEq
import KE.KExcSuper
import HandS.ExcInit
import HandS.ExcSuper
import HandS.ExcField
import HandS.ExcIs
import HandS.WordsExc
import KE.KExcIs
import HandS.Zip0
import KE.KDictItemsList
import HandS.SetKeys
import HandS.DictComp
import HandS.ListItems
import KE.KDictCopyH
import HandS.TupLen
import HandS.SetFor
import PyProof.StrWalks
import PyProof.Rows.SortShellAny
import HandS.Strs
import HandS.TryOnly
import PyProof.ReprRoads
import PyProof.CallFns
import HandS.Ends
import HandS.Head0
import HandS.Head1
import HandS.Head2
import HandS.HeadEnd
import HandS.HeadHook1
import HandS.HeadHook2
import HandS.HeadHook3
import Wide.Once
import KE.KIndexOf
import PySem.Challenge.RW_loomhold_k81_reduced_looms_and_first_cro
set_option Elab.async false
set_option linter.all false
section
set_option maxRecDepth 100000
/-! TA: tree values over HandS: what a value stands for, the mutable part, steps. -/
namespace TL
open PySem PySem.Spec PyProof.Rows L2

/-- the signs of a written text -/
def lit (s : String) : List Nat := s.toList.map Char.toNat
theorem lit_eq (s : String) : Str.ofString s = ⟨(lit s).toArray⟩ := Str.ofString_eq_toList s

/-- a value as data: a tuple, a list, a dict, an instance that nobody writes any more is told whole; ref: what may be written -/
inductive D where
  | non | bl (b : Bool) | int (i : Int) | str (x : List Nat) | ty (n : String) | ref (a : Addr)
  | tup (xs : List D) | lst (xs : List D) | dic (kvs : List (Key × D)) | ins (C : Addr) (fs : List (Str × D))
  /-- an exception that is held: where it stands, its dict -/
  | xn (a dx : Addr) (fs : List (Str × D))
  /-- a tuple that has no dict (its methods may be asked) -/
  | tun (xs : List D)

mutual
inductive Rep (K : PySem.W.Frag) (F : Hp) : V → D → Prop
  | non : Rep K F .non .non
  | bl (b : Bool) : Rep K F (.bl b) (.bl b)
  | int (i : Int) : Rep K F (.int i) (.int i)
  | str (x : List Nat) : Rep K F (.str ⟨x.toArray⟩) (.str x)
  | ty (n : String) : Rep K F (.ty n) (.ty n)
  | ref (a : Addr) : Rep K F (.ref a) (.ref a)
  | tup {a : Addr} {xs : List V} {ds : List D} : SqT K F a xs → Reps K F xs ds → Rep K F (.ref a) (.tup ds)
  | lst {a : Addr} {xs : List V} {ds : List D} : Rd F a (.lst xs) → Reps K F xs ds → Rep K F (.ref a) (.lst ds)
  | ins {a C dx : Addr} {vfs : List (Str × V)} {fs : List (Str × D)} : F a = some (.ins C dx vfs) → RepF K F vfs fs → Rep K F (.ref a) (.ins C fs)
  | dic {a : Addr} {kvs : List (Key × V)} {ds : List (Key × D)} : F a = some (.dK kvs) → RepK K F kvs ds → Rep K F (.ref a) (.dic ds)
  | xn {a dx : Addr} {vfs : List (Str × V)} {fs : List (Str × D)} : F dx = some (.xd vfs) → RepF K F vfs fs → Rep K F (.ref a) (.xn a dx fs)
  | tun {a : Addr} {o : Obj} {xs : List V} {ds : List D} : F a = some (.frz o (.tup xs)) → o.dict = none → o.cls = .type "tuple" → Reps K F xs ds → Rep K F (.ref a) (.tun ds)
inductive Reps (K : PySem.W.Frag) (F : Hp) : List V → List D → Prop
  | nil : Reps K F [] []
  | cons {v : V} {vs : List V} {d : D} {ds : List D} : Rep K F v d → Reps K F vs ds → Reps K F (v :: vs) (d :: ds)
inductive RepF (K : PySem.W.Frag) (F : Hp) : List (Str × V) → List (Str × D) → Prop
  | nil : RepF K F [] []
  | cons {n : Str} {v : V} {vs : List (Str × V)} {d : D} {ds : List (Str × D)} : Rep K F v d → RepF K F vs ds → RepF K F ((n, v) :: vs) ((n, d) :: ds)
inductive RepK (K : PySem.W.Frag) (F : Hp) : List (Key × V) → List (Key × D) → Prop
  | nil : RepK K F [] []
  | cons {k : Key} {v : V} {vs : List (Key × V)} {d : D} {ds : List (Key × D)} : Rep K F v d → RepK K F vs ds → RepK K F ((k, v) :: vs) ((k, d) :: ds)
end

def Sub (F F' : Hp) : Prop := ∀ a o, F a = some o → F' a = some o
theorem Sub.refl (F : Hp) : Sub F F := fun _ _ h => h
theorem Sub.trans {F G H : Hp} (a : Sub F G) (b : Sub G H) : Sub F H := fun x o h => b x o (a x o h)
theorem Sub.rd {F F' : Hp} (s : Sub F F') {a : Addr} {u : HO} (h : Rd F a u) : Rd F' a u := by
  rcases h with h | ⟨o, h⟩
  · exact .inl (s _ _ h)
  · exact .inr ⟨o, s _ _ h⟩
theorem Sub.sqL {K : PySem.W.Frag} {F F' : Hp} (s : Sub F F') {a : Addr} {xs : List V} (h : SqL K F a xs) : SqL K F' a xs := h.imp s.rd id
theorem Sub.sqT {K : PySem.W.Frag} {F F' : Hp} (s : Sub F F') {a : Addr} {xs : List V} (h : SqT K F a xs) : SqT K F' a xs := h.imp s.rd id
section
variable {K : PySem.W.Frag} {F F' : Hp}
mutual
theorem Rep.mono (s : Sub F F') : ∀ {v : V} {d : D}, Rep K F v d → Rep K F' v d
  | _, _, .non => .non
  | _, _, .bl b => .bl b
  | _, _, .int i => .int i
  | _, _, .str x => .str x
  | _, _, .ty n => .ty n
  | _, _, .ref a => .ref a
  | _, _, .tup h r => .tup (s.sqT h) (Reps.mono s r)
  | _, _, .lst h r => .lst (s.rd h) (Reps.mono s r)
  | _, _, .ins h r => .ins (s _ _ h) (RepF.mono s r)
  | _, _, .dic h r => .dic (s _ _ h) (RepK.mono s r)
  | _, _, .xn h r => .xn (s _ _ h) (RepF.mono s r)
  | _, _, .tun h h1 h2 r => .tun (s _ _ h) h1 h2 (Reps.mono s r)
theorem Reps.mono (s : Sub F F') : ∀ {v : List V} {d : List D}, Reps K F v d → Reps K F' v d
  | _, _, .nil => .nil
  | _, _, .cons h r => .cons (Rep.mono s h) (Reps.mono s r)
theorem RepF.mono (s : Sub F F') : ∀ {v : List (Str × V)} {d : List (Str × D)}, RepF K F v d → RepF K F' v d
  | _, _, .nil => .nil
  | _, _, .cons h r => .cons (Rep.mono s h) (RepF.mono s r)
theorem RepK.mono (s : Sub F F') : ∀ {v : List (Key × V)} {d : List (Key × D)}, RepK K F v d → RepK K F' v d
  | _, _, .nil => .nil
  | _, _, .cons h r => .cons (Rep.mono s h) (RepK.mono s r)
end
theorem Reps.length : ∀ {vs : List V} {ds : List D}, Reps K F vs ds → vs.length = ds.length
  | _, _, .nil => rfl
  | _, _, .cons _ r => congrArg (· + 1) (Reps.length r)
theorem Reps.append : ∀ {vs us : List V} {ds es : List D}, Reps K F vs ds → Reps K F us es → Reps K F (vs ++ us) (ds ++ es)
  | _, _, _, _, .nil, s => s
  | _, _, _, _, .cons h r, s => .cons h (Reps.append r s)
theorem Reps.get : ∀ {vs : List V} {ds : List D} {i : Nat} {d : D}, Reps K F vs ds → ds[i]? = some d → ∃ v, vs[i]? = some v ∧ Rep K F v d
  | _, _, _, _, .nil, e => by simp at e
  | _, _, 0, _, .cons h _, e => by simp at e; subst e; exact ⟨_, rfl, h⟩
  | _, _, i + 1, d, .cons _ r, e => by
    obtain ⟨v, h1, h2⟩ := Reps.get (i := i) (d := d) r (by simpa using e)
    exact ⟨v, by simpa using h1, h2⟩
theorem Reps.get' : ∀ {vs : List V} {ds : List D} {i : Nat} {v : V}, Reps K F vs ds → vs[i]? = some v → ∃ d, ds[i]? = some d ∧ Rep K F v d
  | _, _, _, _, .nil, e => by simp at e
  | _, _, 0, _, .cons h _, e => by simp at e; subst e; exact ⟨_, rfl, h⟩
  | _, _, i + 1, d, .cons _ r, e => by
    obtain ⟨v, h1, h2⟩ := Reps.get' (i := i) (v := d) r (by simpa using e)
    exact ⟨v, by simpa using h1, h2⟩
theorem Reps.take : ∀ {vs : List V} {ds : List D} (n : Nat), Reps K F vs ds → Reps K F (vs.take n) (ds.take n)
  | _, _, 0, _ => .nil
  | _, _, _ + 1, .nil => .nil
  | _, _, n + 1, .cons h r => .cons h (Reps.take n r)
theorem Reps.drop : ∀ {vs : List V} {ds : List D} (n : Nat), Reps K F vs ds → Reps K F (vs.drop n) (ds.drop n)
  | _, _, 0, r => r
  | _, _, _ + 1, .nil => .nil
  | _, _, n + 1, .cons _ r => Reps.drop n r
theorem Reps.reverse {vs : List V} {ds : List D} (h : Reps K F vs ds) : Reps K F vs.reverse ds.reverse := by
  induction vs generalizing ds with
  | nil => cases h; exact .nil
  | cons v r ih =>
    cases h with
    | cons h t =>
      rw [List.reverse_cons, List.reverse_cons]
      exact (ih t).append (.cons h .nil)
theorem Reps.set : ∀ {vs : List V} {ds : List D} (i : Nat) {v : V} {d : D}, Reps K F vs ds → Rep K F v d → Reps K F (vs.set i v) (ds.set i d)
  | _, _, _, _, _, .nil, _ => .nil
  | _, _, 0, _, _, .cons _ r, q => .cons q r
  | _, _, i + 1, _, _, .cons h r, q => .cons h (Reps.set i r q)
theorem RepF.lookup : ∀ {vs : List (Str × V)} {ds : List (Str × D)} {n : Str} {d : D}, RepF K F vs ds → ds.lookup n = some d → ∃ v, vs.lookup n = some v ∧ Rep K F v d
  | _, _, _, _, .nil, e => by simp at e
  | _, _, n, d, .cons (n := m) h r, e => by
    rw [List.lookup_cons] at e ⊢
    cases hb : n == m with
    | true =>
      rw [hb] at e
      cases e
      exact ⟨_, rfl, h⟩
    | false =>
      rw [hb] at e
      exact RepF.lookup r e
theorem RepF.none : ∀ {vs : List (Str × V)} {ds : List (Str × D)} {n : Str}, RepF K F vs ds → ds.lookup n = none → vs.lookup n = none
  | _, _, _, .nil, e => rfl
  | _, _, n, .cons (n := m) h r, e => by
    rw [List.lookup_cons] at e ⊢
    cases hb : n == m with
    | true =>
      rw [hb] at e
      cases e
    | false =>
      rw [hb] at e
      exact RepF.none r e
end

/-- what may be written -/
inductive MO where
  | lst (xs : List D) | dic (kvs : List (Key × D)) | ins (C : Addr) (fs : List (Str × D))
  /-- a dict whose keys are tuples, in the world w -/
  | kd (w : World) (kvs : List (D × D))
abbrev Mp := Addr → Option MO
def mset (M : Mp) (a : Addr) (m : MO) : Mp := fun b => if b = a then some m else M b
def mdel (M : Mp) (a : Addr) : Mp := fun b => if b = a then none else M b
theorem mset_same {M : Mp} {a : Addr} {m : MO} : mset M a m a = some m := by unfold mset; rw [if_pos rfl]
theorem mset_ne {M : Mp} {a b : Addr} {m : MO} (h : b ≠ a) : mset M a m b = M b := by unfold mset; rw [if_neg h]
theorem mdel_same {M : Mp} {a : Addr} : mdel M a a = none := by unfold mdel; rw [if_pos rfl]
theorem mdel_ne {M : Mp} {a b : Addr} (h : b ≠ a) : mdel M a b = M b := by unfold mdel; rw [if_neg h]
theorem mset_mset {M : Mp} {a : Addr} {m n : MO} : mset (mset M a m) a n = mset M a n := by
  funext b; unfold mset; split <;> rfl
theorem mdel_mset {M : Mp} {a : Addr} {m : MO} (h : M a = none) : mdel (mset M a m) a = M := by
  funext b; unfold mdel mset; split
  · rename_i e; rw [e, h]
  · rfl
mutual
/-- what a dict takes as a key -/
def nkey : D → Option NestedKey
  | .non => some .none
  | .bl b => some (.num (if b = true then 1 else 0))
  | .int i => some (.num i)
  | .str x => some (.text ⟨x.toArray⟩)
  | .tup xs => (nkeys xs).map .tup
  | .ty _ | .ref _ | .lst _ | .dic _ | .ins _ _ | .xn _ _ _ | .tun _ => none
def nkeys : List D → Option (List NestedKey)
  | [] => some []
  | d :: ds => match nkey d, nkeys ds with
    | some k, some ks => some (k :: ks)
    | _, _ => none
end
/-- the entries of a dict with tuple keys: the key, where its tuple stands, the value -/
abbrev KX := List (NestedKey × Addr × Value)
def entK (w : World) (x : NestedKey × Addr × Value) : DictEntry := ⟨x.1.hash w, .ref x.2.1, x.2.2⟩
def KDO (w : World) (a : Addr) (xs : KX) : HO := .ext fun h => ∃ o es ep, h.get? a = some o ∧ o.ExactDict ∧ o.data = .dict es ep ∧ es.toList = xs.map (entK w) ∧ (xs.map (·.1)).Nodup ∧ xs.length ≤ sizeLine ∧ (a == sysModules) = false
inductive RepX (K : PySem.W.Frag) (F : Hp) : KX → List (D × D) → Prop
  | nil : RepX K F [] []
  | cons {k : NestedKey} {a : Addr} {u : Value} {v : V} {kd d : D} {xs : KX} {ds : List (D × D)} : nkey kd = some k → k.depth ≤ 8 → Rep K F (.ref a) kd → RelV v u → Rep K F v d → RepX K F xs ds → RepX K F ((k, a, u) :: xs) ((kd, d) :: ds)
theorem RepX.mono {K : PySem.W.Frag} {F F' : Hp} (s : Sub F F') : ∀ {xs : KX} {ds : List (D × D)}, RepX K F xs ds → RepX K F' xs ds
  | _, _, .nil => .nil
  | _, _, .cons a b c d e r => .cons a b (c.mono s) d (e.mono s) (RepX.mono s r)
inductive RepO (K : PySem.W.Frag) (F : Hp) : HO → MO → Prop
  | lst {xs : List V} {ds : List D} : Reps K F xs ds → RepO K F (.lst xs) (.lst ds)
  | dic {kvs : List (Key × V)} {ds : List (Key × D)} : RepK K F kvs ds → RepO K F (.dK kvs) (.dic ds)
  | ins {C dx : Addr} {vfs : List (Str × V)} {fs : List (Str × D)} : RepF K F vfs fs → RepO K F (.ins C dx vfs) (.ins C fs)
  | kd {w : World} {a : Addr} {xs : KX} {ds : List (D × D)} : RepX K F xs ds → RepO K F (KDO w a xs) (.kd w ds)
theorem RepO.mono {K : PySem.W.Frag} {F F' : Hp} (s : Sub F F') {o : HO} {m : MO} (h : RepO K F o m) : RepO K F' o m := by
  cases h with
  | lst r => exact .lst (r.mono s)
  | dic r => exact .dic (r.mono s)
  | ins r => exact .ins (r.mono s)
  | kd r => exact .kd (r.mono s)
/-- F: what nobody writes any more; M: what may be written; all else in H is left alone -/
structure Good (K : PySem.W.Frag) (H F : Hp) (M : Mp) : Prop where
  sub : Sub F H
  dis : ∀ b m, M b = some m → F b = none
  real : ∀ a m, M a = some m → ∃ o, H a = some o ∧ RepO K F o m
section
variable {K : PySem.W.Frag} {H F H' F' H1 F1 H2 F2 : Hp} {M M' M1 M2 : Mp}
theorem Good.free (r : Good K H F M) {p : Addr} (h : H p = none) : M p = none := by
  cases e : M p with
  | none => rfl
  | some m =>
    obtain ⟨o, ho, _⟩ := r.real p m e
    rw [h] at ho; cases ho
theorem Good.freeF (r : Good K H F M) {p : Addr} (h : H p = none) : F p = none := by
  cases e : F p with
  | none => rfl
  | some m =>
    have := r.sub p m e
    rw [h] at this; cases this
structure Stp (K : PySem.W.Frag) (H F : Hp) (M : Mp) (H' F' : Hp) (M' : Mp) : Prop where
  keep : ∀ b o, H b = some o → M b = none → H' b = some o ∧ M' b = none
  sub : Sub F F'
  news : ∀ b o, F' b = some o → F b = some o ∨ M b ≠ none ∨ H b = none
  good : Good K H' F' M'
theorem Stp.refl (r : Good K H F M) : Stp K H F M H F M := ⟨fun _ _ h n => ⟨h, n⟩, Sub.refl F, fun _ _ h => .inl h, r⟩
theorem Stp.trans (a : Stp K H F M H1 F1 M1) (b : Stp K H1 F1 M1 H2 F2 M2) : Stp K H F M H2 F2 M2 := by
  refine ⟨fun x o h n => let ⟨h1, n1⟩ := a.keep x o h n; b.keep x o h1 n1, a.sub.trans b.sub, fun x o h => ?_, b.good⟩
  rcases b.news x o h with h | h | h
  · exact a.news x o h
  · cases e : M x with
    | some m => exact .inr (.inl (by simp))
    | none =>
      cases e2 : H x with
      | none => exact .inr (.inr rfl)
      | some u => exact absurd (a.keep x u e2 e).2 h
  · cases e : M x with
    | some m => exact .inr (.inl (by simp))
    | none =>
      cases e2 : H x with
      | none => exact .inr (.inr rfl)
      | some u => have := (a.keep x u e2 e).1; rw [h] at this; cases this
theorem Stp.rep (a : Stp K H F M H1 F1 M1) {v : V} {d : D} (h : Rep K F v d) : Rep K F1 v d := h.mono a.sub
theorem Stp.reps (a : Stp K H F M H1 F1 M1) {v : List V} {d : List D} (h : Reps K F v d) : Reps K F1 v d := h.mono a.sub
theorem sub_upd {p : Addr} {o : HO} (h : F p = none) : Sub F (upd F p o) := fun b u e => by rw [upd_ne (ne_of_none e h)]; exact e
/-- a new thing that nobody writes -/
theorem Stp.new {p : Addr} {o : HO} (r : Good K H F M) (hp : H p = none) : Stp K H F M (upd H p o) (upd F p o) M := by
  have hM := r.free hp
  have hF := r.freeF hp
  refine ⟨fun b u h n => ⟨by rw [upd_ne (ne_of_none h hp)]; exact h, n⟩, sub_upd hF, fun b u h => ?_, fun b u h => ?_, fun b m h => ?_, fun a m e => ?_⟩
  · by_cases hb : b = p
    · subst hb; exact .inr (.inr hp)
    · rw [upd_ne hb] at h; exact .inl h
  · by_cases hb : b = p
    · subst hb; rw [upd_same] at h ⊢; exact h
    · rw [upd_ne hb] at h ⊢; exact r.sub b u h
  · have hb : b ≠ p := fun e => by rw [e, hM] at h; cases h
    rw [upd_ne hb]; exact r.dis b m h
  · obtain ⟨u, hu, ru⟩ := r.real a m e
    exact ⟨u, by rw [upd_ne (ne_of_none hu hp)]; exact hu, ru.mono (sub_upd hF)⟩
/-- a new thing that may be written -/
theorem Stp.newM {p : Addr} {o : HO} {m : MO} (r : Good K H F M) (hp : H p = none) (ro : RepO K F o m) : Stp K H F M (upd H p o) F (mset M p m) := by
  have hM := r.free hp
  have hF := r.freeF hp
  refine ⟨fun b u h n => ⟨by rw [upd_ne (ne_of_none h hp)]; exact h, by rw [mset_ne (ne_of_none h hp)]; exact n⟩, Sub.refl F, fun b u h => .inl h, (r.sub.trans (sub_upd hp)), fun b m' h => ?_, fun a m' e => ?_⟩
  · by_cases hb : b = p
    · subst hb; exact hF
    · rw [mset_ne hb] at h; exact r.dis b m' h
  · by_cases ha : a = p
    · subst ha
      rw [mset_same] at e; cases e
      exact ⟨o, upd_same, ro⟩
    · rw [mset_ne ha] at e
      obtain ⟨u, hu, ru⟩ := r.real a m' e
      exact ⟨u, by rw [upd_ne ha]; exact hu, ru⟩
/-- a thing is written -/
theorem Stp.write {p : Addr} {o : HO} {m m' : MO} (r : Good K H F M) (hp : M p = some m) (ro : RepO K F o m') : Stp K H F M (upd H p o) F (mset M p m') := by
  have ne : ∀ {b : Addr}, M b = none → b ≠ p := fun {b} h e => by rw [e, hp] at h; cases h
  have hF := r.dis p m hp
  refine ⟨fun b u h n => ⟨by rw [upd_ne (ne n)]; exact h, by rw [mset_ne (ne n)]; exact n⟩, Sub.refl F, fun b u h => .inl h, fun b u h => ?_, fun b m2 h => ?_, fun a m2 e => ?_⟩
  · have hb : b ≠ p := ne_of_none h hF
    rw [upd_ne hb]; exact r.sub b u h
  · by_cases hb : b = p
    · subst hb; exact hF
    · rw [mset_ne hb] at h; exact r.dis b m2 h
  · by_cases ha : a = p
    · subst ha
      rw [mset_same] at e; cases e
      exact ⟨o, upd_same, ro⟩
    · rw [mset_ne ha] at e
      obtain ⟨u, hu, ru⟩ := r.real a m2 e
      exact ⟨u, by rw [upd_ne ha]; exact hu, ru⟩
/-- a thing is written no more -/
theorem Stp.freeze (r : Good K H F M) {p : Addr} {m : MO} {o : HO} (hp : M p = some m) (ho : H p = some o) : Stp K H F M H (upd F p o) (mdel M p) := by
  have no : ∀ {b : Addr}, M b = none → mdel M p b = none := fun {b} h => by
    unfold mdel; split
    · rfl
    · exact h
  have hF := r.dis p m hp
  refine ⟨fun b u h n => ⟨h, no n⟩, sub_upd hF, fun b u h => ?_, fun b u h => ?_, fun b m2 h => ?_, fun a m' e => ?_⟩
  · by_cases hb : b = p
    · subst hb; exact .inr (.inl (by rw [hp]; simp))
    · rw [upd_ne hb] at h; exact .inl h
  · by_cases hb : b = p
    · subst hb; rw [upd_same] at h; rw [ho]; exact h
    · rw [upd_ne hb] at h; exact r.sub b u h
  · have hb : b ≠ p := fun e => by rw [e, mdel_same] at h; cases h
    rw [mdel_ne hb] at h
    rw [upd_ne hb]; exact r.dis b m2 h
  · have ha : a ≠ p := fun z => by rw [z, mdel_same] at e; cases e
    rw [mdel_ne ha] at e
    obtain ⟨u, hu, ru⟩ := r.real a m' e
    exact ⟨u, hu, ru.mono (sub_upd hF)⟩
theorem Good.lst (r : Good K H F M) {p : Addr} {ds : List D} (h : M p = some (.lst ds)) : ∃ vs, H p = some (.lst vs) ∧ Reps K F vs ds := by
  obtain ⟨o, ho, ro⟩ := r.real p _ h
  cases ro with
  | lst q => exact ⟨_, ho, q⟩
theorem Good.dic (r : Good K H F M) {p : Addr} {ds : List (Key × D)} (h : M p = some (.dic ds)) : ∃ vs, H p = some (.dK vs) ∧ RepK K F vs ds := by
  obtain ⟨o, ho, ro⟩ := r.real p _ h
  cases ro with
  | dic q => exact ⟨_, ho, q⟩
theorem Good.ins (r : Good K H F M) {p C : Addr} {fs : List (Str × D)} (h : M p = some (.ins C fs)) : ∃ dx vs, H p = some (.ins C dx vs) ∧ RepF K F vs fs := by
  obtain ⟨o, ho, ro⟩ := r.real p _ h
  cases ro with
  | ins q => exact ⟨_, _, ho, q⟩
/-- a thing that is neither frozen nor to be written (a comprehension's own list) is changed -/
theorem Good.other (r : Good K H F M) {p : Addr} {o : HO} (hF : F p = none) (hM : M p = none) : Good K (upd H p o) F M :=
  ⟨fun b u h => by rw [upd_ne (ne_of_none h hF)]; exact r.sub b u h, r.dis, fun a m e => by
    obtain ⟨u, hu, ru⟩ := r.real a m e
    have ha : a ≠ p := fun z => by rw [z, hM] at e; cases e
    exact ⟨u, by rw [upd_ne ha]; exact hu, ru⟩⟩
end

/-- what the slots hold, as data -/
abbrev En := List (Option D)
structure Sim (K : PySem.W.Frag) (H F : Hp) (M : Mp) (σ : L2.St) (ρ : En) : Prop where
  good : Good K H F M
  slot : ∀ (i : Nat) (d : D), ρ[i]? = some (some d) → ∃ v, σ[i]? = some (some v) ∧ Rep K F v d
  len : σ.length = ρ.length
section
variable {K : PySem.W.Frag} {H F H1 F1 : Hp} {M M1 : Mp} {σ : L2.St} {ρ : En}
theorem Sim.step (S : Sim K H F M σ ρ) (t : Stp K H F M H1 F1 M1) : Sim K H1 F1 M1 σ ρ :=
  ⟨t.good, fun i d e => let ⟨v, h, r⟩ := S.slot i d e; ⟨v, h, t.rep r⟩, S.len⟩
theorem Sim.set (S : Sim K H F M σ ρ) {v : V} {d : D} (i : Nat) (r : Rep K F v d) : Sim K H F M (σ.set i (some v)) (ρ.set i (some d)) := by
  refine ⟨S.good, fun j e h => ?_, by rw [List.length_set, List.length_set]; exact S.len⟩
  by_cases hj : i = j
  · subst hj
    by_cases hi : i < ρ.length
    · rw [List.getElem?_set_self hi] at h
      cases h
      exact ⟨v, List.getElem?_set_self (by rw [S.len]; exact hi), r⟩
    · rw [List.getElem?_eq_none (by rw [List.length_set]; omega)] at h; cases h
  · rw [List.getElem?_set_ne hj] at h
    obtain ⟨u, h1, h2⟩ := S.slot j e h
    exact ⟨u, by rw [List.getElem?_set_ne hj]; exact h1, h2⟩
/-- ρ knows no more than ρ' -/
def Le : En → En → Prop
  | [], [] => True
  | none :: r, _ :: r' => Le r r'
  | some d :: r, some d' :: r' => d = d' ∧ Le r r'
  | _, _ => False
theorem Le.refl : ∀ ρ : En, Le ρ ρ
  | [] => trivial
  | none :: r => Le.refl r
  | some _ :: r => ⟨rfl, Le.refl r⟩
theorem Le.get : ∀ {ρ ρ' : En} {i : Nat} {d : D}, Le ρ ρ' → ρ[i]? = some (some d) → ρ'[i]? = some (some d)
  | [], [], _, _, _, e => by simp at e
  | none :: _, _ :: _, 0, _, _, e => by simp at e
  | some _ :: _, some _ :: _, 0, _, h, e => by
    simp at e ⊢
    rw [← h.1]; exact e
  | none :: r, _ :: r', i + 1, d, h, e => by
    simp at e ⊢
    exact Le.get (ρ := r) (ρ' := r') h (by simpa using e)
  | some _ :: r, some _ :: r', i + 1, d, h, e => by
    simp at e ⊢
    exact Le.get (ρ := r) (ρ' := r') h.2 (by simpa using e)
theorem Le.trans : ∀ {ρ ρ' ρ'' : En}, Le ρ ρ' → Le ρ' ρ'' → Le ρ ρ''
  | [], [], [], _, _ => trivial
  | none :: r, none :: r', _ :: r'', h, h' => Le.trans (ρ := r) (ρ' := r') (ρ'' := r'') h h'
  | none :: r, some _ :: r', some _ :: r'', h, h' => Le.trans (ρ := r) (ρ' := r') (ρ'' := r'') h h'.2
  | some _ :: r, some _ :: r', some _ :: r'', h, h' => ⟨h.1.trans h'.1, Le.trans (ρ := r) (ρ' := r') (ρ'' := r'') h.2 h'.2⟩
theorem Le.length : ∀ {ρ ρ' : En}, Le ρ ρ' → ρ.length = ρ'.length
  | [], [], _ => rfl
  | none :: r, _ :: r', h => congrArg (· + 1) (Le.length (ρ := r) (ρ' := r') h)
  | some _ :: r, some _ :: r', h => congrArg (· + 1) (Le.length (ρ := r) (ρ' := r') h.2)
theorem Sim.le {ρ' : En} (S : Sim K H F M σ ρ') (h : Le ρ ρ') : Sim K H F M σ ρ := ⟨S.good, fun i d e => S.slot i d (h.get e), S.len.trans h.length.symm⟩
end
end TL
end
section
set_option maxRecDepth 100000
/-! TB: what an expression, a test, a list of arguments, a statement does, told over tree values. -/
namespace TL
open PySem PySem.Spec PyProof.Rows L2
abbrev SS := L2.St
abbrev Pins := List (Addr × Obj)
abbrev DQ := D → Mp → Prop

def TEnd (X : Cx) (pins : Pins) (σ : SS) (H F : Hp) (M : Mp) (Q : DQ) (u : Value) (s' : Shared) : Prop :=
  ∃ v H' F' M' d, Inv X pins σ H' s' ∧ RelV v u ∧ Stp X.K H F M H' F' M' ∧ Rep X.K F' v d ∧ Q d M'
def BEnd (X : Cx) (pins : Pins) (σ : SS) (H F : Hp) (M : Mp) (Q : Bool → Mp → Prop) (b : Bool) (s' : Shared) : Prop :=
  ∃ H' F' M', Inv X pins σ H' s' ∧ Stp X.K H F M H' F' M' ∧ Q b M'
def AEnd (X : Cx) (pins : Pins) (σ : SS) (H F : Hp) (M : Mp) (Q : List D → Mp → Prop) (us : List Value) (s' : Shared) : Prop :=
  ∃ vs H' F' M' ds, Inv X pins σ H' s' ∧ Vals vs us ∧ Stp X.K H F M H' F' M' ∧ Reps X.K F' vs ds ∧ Q ds M'

/-- an expression -/
structure WE (X : Cx) (e : Expr) (ρ : En) (M : Mp) (Q : DQ) : Prop where
  run : ∀ (pins : Pins) (s : Shared) (σ : SS) (H F : Hp), Inv X pins σ H s → Sim X.K H F M σ ρ → wpAny (model X.prog X.w) X.A (eval e X.env) (TEnd X pins σ H F M Q) X.xe s
/-- a test -/
structure WT (X : Cx) (e : Expr) (ρ : En) (M : Mp) (Q : Bool → Mp → Prop) : Prop where
  run : ∀ (pins : Pins) (s : Shared) (σ : SS) (H F : Hp), Inv X pins σ H s → Sim X.K H F M σ ρ → wpAny (model X.prog X.w) X.A (isTrue e X.env (eval e X.env)) (BEnd X pins σ H F M Q) X.xe s
/-- a test whatever its whole is (and, or) -/
structure WW (X : Cx) (e : Expr) (ρ : En) (M : Mp) (Q : Bool → Mp → Prop) : Prop where
  run : ∀ (whole : Sem Value) (pins : Pins) (s : Shared) (σ : SS) (H F : Hp), Inv X pins σ H s → Sim X.K H F M σ ρ → wpAny (model X.prog X.w) X.A (isTrue e X.env whole) (BEnd X pins σ H F M Q) X.xe s
/-- arguments, from the left -/
structure WA (X : Cx) (es : List Expr) (ρ : En) (M : Mp) (Q : List D → Mp → Prop) : Prop where
  run : ∀ (pos : Pos) (pins : Pins) (s : Shared) (σ : SS) (H F : Hp), Inv X pins σ H s → Sim X.K H F M σ ρ → wpAny (model X.prog X.w) X.A (spliced (backTo pos (starEach es X.env))) (AEnd X pins σ H F M Q) X.xe s
/-- an operation by the values of its two sides -/
def VO (X : Cx) (f : Value → Value → Sem Value) (x y : D) (M : Mp) (Q : DQ) : Prop :=
  ∀ (pins : Pins) (s : Shared) (σ : SS) (H F : Hp) (v1 v2 : V) (u1 u2 : Value), Inv X pins σ H s → Good X.K H F M → RelV v1 u1 → RelV v2 u2 → Rep X.K F v1 x → Rep X.K F v2 y →
    wpAny (model X.prog X.w) X.A (f u1 u2) (TEnd X pins σ H F M Q) X.xe s
/-- .. of one value -/
def VU (X : Cx) (f : Value → Sem Value) (x : D) (M : Mp) (Q : DQ) : Prop :=
  ∀ (pins : Pins) (s : Shared) (σ : SS) (H F : Hp) (v : V) (u : Value), Inv X pins σ H s → Good X.K H F M → RelV v u → Rep X.K F v x →
    wpAny (model X.prog X.w) X.A (f u) (TEnd X pins σ H F M Q) X.xe s
/-- a built-in called with the values of its arguments -/
def VC (X : Cx) (f : Value) (xs : List D) (M : Mp) (Q : DQ) : Prop :=
  ∀ (pins : Pins) (s : Shared) (σ : SS) (H F : Hp) (vs : List V) (us : List Value), Inv X pins σ H s → Good X.K H F M → Vals vs us → Reps X.K F vs xs →
    wpAny (model X.prog X.w) X.A (call f us) (TEnd X pins σ H F M Q) X.xe s

section
variable {X : Cx} {pins : Pins} {σ : SS} {H F H1 F1 : Hp} {M M1 : Mp} {ρ : En} {s : Shared}
theorem TEnd.back {Q : DQ} {u : Value} {s' : Shared} (t : Stp X.K H F M H1 F1 M1) (h : TEnd X pins σ H1 F1 M1 Q u s') : TEnd X pins σ H F M Q u s' :=
  let ⟨v, H', F', M', d, I, r, t', rp, q⟩ := h; ⟨v, H', F', M', d, I, r, t.trans t', rp, q⟩
theorem TEnd.imp {Q Q' : DQ} {u : Value} {s' : Shared} (h : TEnd X pins σ H F M Q u s') (hq : ∀ d M', Q d M' → Q' d M') : TEnd X pins σ H F M Q' u s' :=
  let ⟨v, H', F', M', d, I, r, t', rp, q⟩ := h; ⟨v, H', F', M', d, I, r, t', rp, hq _ _ q⟩
theorem BEnd.back {Q : Bool → Mp → Prop} {u : Bool} {s' : Shared} (t : Stp X.K H F M H1 F1 M1) (h : BEnd X pins σ H1 F1 M1 Q u s') : BEnd X pins σ H F M Q u s' :=
  let ⟨H', F', M', I, t', q⟩ := h; ⟨H', F', M', I, t.trans t', q⟩
theorem AEnd.back {Q : List D → Mp → Prop} {u : List Value} {s' : Shared} (t : Stp X.K H F M H1 F1 M1) (h : AEnd X pins σ H1 F1 M1 Q u s') : AEnd X pins σ H F M Q u s' :=
  let ⟨v, H', F', M', d, I, r, t', rp, q⟩ := h; ⟨v, H', F', M', d, I, r, t.trans t', rp, q⟩
/-- a value that is the same heap's -/
theorem TEnd.of {Q : DQ} {v : V} {u : Value} {d : D} (I : Inv X pins σ H s) (R : Good X.K H F M) (r : RelV v u) (rp : Rep X.K F v d) (q : Q d M) : TEnd X pins σ H F M Q u s :=
  ⟨v, H, F, M, d, I, r, Stp.refl R, rp, q⟩
theorem BEnd.of {Q : Bool → Mp → Prop} {b : Bool} (I : Inv X pins σ H s) (R : Good X.K H F M) (q : Q b M) : BEnd X pins σ H F M Q b s := ⟨H, F, M, I, Stp.refl R, q⟩

/-! ### from the layer's readings -/
theorem WE.pe {e : Expr} {t : TE} {Q : DQ} (p : PE X e t) (h : ∀ σ H F, Sim X.K H F M σ ρ → t σ H fun v H' => ∃ F' M' d, Stp X.K H F M H' F' M' ∧ Rep X.K F' v d ∧ Q d M') : WE X e ρ M Q :=
  ⟨fun pins s σ H F I S => thn (p.run pins s σ H _ I (h σ H F S)) fun u s' ⟨v, H', I', r, F', M', d, st, rp, q⟩ => ⟨v, H', F', M', d, I', r, st, rp, q⟩⟩
theorem VO.op {f : Value → Value → Sem Value} {r : R2} {x y : D} {Q : DQ} (p : OpR X f r)
    (h : ∀ H F v1 v2, Good X.K H F M → Rep X.K F v1 x → Rep X.K F v2 y → r v1 v2 H fun v H' => ∃ F' M' d, Stp X.K H F M H' F' M' ∧ Rep X.K F' v d ∧ Q d M') : VO X f x y M Q :=
  fun pins s σ H F v1 v2 u1 u2 I R r1 r2 p1 p2 => thn (p pins s σ H v1 v2 u1 u2 _ I r1 r2 (h H F v1 v2 R p1 p2)) fun u s' ⟨v, H', I', r, F', M', d, st, rp, q⟩ => ⟨v, H', F', M', d, I', r, st, rp, q⟩
theorem VC.call {f : Value} {r : List V → Hp → VK → Prop} {xs : List D} {Q : DQ} (p : CallR X f r)
    (h : ∀ H F vs, Good X.K H F M → Reps X.K F vs xs → r vs H fun v H' => ∃ F' M' d, Stp X.K H F M H' F' M' ∧ Rep X.K F' v d ∧ Q d M') : VC X f xs M Q :=
  fun pins s σ H F vs us I R r1 p1 => thn (p pins s σ H vs us _ I r1 (h H F vs R p1)) fun u s' ⟨v, H', I', r, F', M', d, st, rp, q⟩ => ⟨v, H', F', M', d, I', r, st, rp, q⟩

/-! ### small expressions -/
variable {Q : DQ} {x : Str} {pos : Pos}
theorem WE.var (i : Nat) {d : D} (hd : ρ[i]? = some (some d)) (h : Q d M) (hN : X.N[i]? = some x := by rfl) (hv : Vis X.env.scope x := by first | exact Or.inl rfl | exact Or.inr (Or.inl rfl) | exact Or.inr (Or.inr rfl))
    (hdb : (x == ("__debug__" : Str)) = false := by decide) (hcd : (x == ("__classdict__" : Str)) = false := by decide) : WE X (.Name x pos) ρ M Q :=
  .pe (pe_var hN hv hdb hcd) fun σ H F S => let ⟨v, h1, h2⟩ := S.slot i d hd; ⟨v, h1, F, M, d, Stp.refl S.good, h2, h⟩
theorem WE.int {i : Int} {j} (h : Q (.int i) M) : WE X (.Constant (.int i) j pos) ρ M Q := .pe pe_int fun σ H F S => ⟨F, M, _, Stp.refl S.good, .int i, h⟩
theorem WE.bl {i : Bool} {j} (h : Q (.bl i) M) : WE X (.Constant (.bool i) j pos) ρ M Q := .pe pe_bl fun σ H F S => ⟨F, M, _, Stp.refl S.good, .bl i, h⟩
theorem WE.non {j} (h : Q .non M) : WE X (.Constant .none j pos) ρ M Q := .pe pe_non fun σ H F S => ⟨F, M, _, Stp.refl S.good, .non, h⟩
theorem WE.str {t : String} {j} (h : Q (.str (lit t)) M) : WE X (.Constant (.str (Str.ofString t)) j pos) ρ M Q :=
  .pe pe_str fun σ H F S => ⟨F, M, _, Stp.refl S.good, by rw [lit_eq]; exact .str _, h⟩
/-- a module's constant -/
theorem WE.glob {v : V} {u : Value} {d : D} (hm : X.mg x = some u) (r : RelV v u) (rp : ∀ F : Hp, Rep X.K F v d) (h : Q d M) (hg : Gl X x := by rfl) (hd : (x == ("__debug__" : Str)) = false := by decide) : WE X (.Name x pos) ρ M Q :=
  .pe (pe_glob hg hm r hd) fun σ H F S => ⟨F, M, d, Stp.refl S.good, rp _, h⟩

/-- two expressions in a row -/
theorem two {a b : Expr} {P : D → D → Mp → Prop} (I : Inv X pins σ H s) (S : Sim X.K H F M σ ρ) (h : WE X a ρ M fun x M1 => WE X b ρ M1 fun y M2 => P x y M2) {α : Type} {R : α → Shared → Prop} {f : Value → Value → Sem α}
    (hf : ∀ u1 u2 s2 v1 v2 x y H2 F2 M2, Inv X pins σ H2 s2 → Stp X.K H F M H2 F2 M2 → RelV v1 u1 → RelV v2 u2 → Rep X.K F2 v1 x → Rep X.K F2 v2 y → P x y M2 → wpAny (model X.prog X.w) X.A (f u1 u2) R X.xe s2) :
    wpAny (model X.prog X.w) X.A (eval a X.env) (fun u1 s₁ => wpAny (model X.prog X.w) X.A (eval b X.env) (fun u2 s₂ => wpAny (model X.prog X.w) X.A (f u1 u2) R X.xe s₂) X.xe s₁) X.xe s := by
  refine thn (h.run pins s σ H F I S) fun u1 s1 ⟨v1, H1, F1, M1, x, I1, r1, t1, p1, q1⟩ => ?_
  refine thn (q1.run pins s1 σ H1 F1 I1 (S.step t1)) fun u2 s2 ⟨v2, H2, F2, M2, y, I2, r2, t2, p2, q2⟩ => ?_
  exact hf u1 u2 s2 v1 v2 x y H2 F2 M2 I2 (t1.trans t2) r1 r2 (t2.rep p1) p2 q2
variable {a b c : Expr}
theorem WE.bin {op : Operator} (h : WE X a ρ M fun x M1 => WE X b ρ M1 fun y M2 => VO X (binaryOp op) x y M2 Q) : WE X (.BinOp a op b pos) ρ M Q :=
  ⟨fun pins s σ H F I S => wpAny_BinOp (two I S h fun u1 u2 s2 v1 v2 x y H2 F2 M2 I2 t r1 r2 p1 p2 q => thn (q pins s2 σ H2 F2 v1 v2 u1 u2 I2 t.good r1 r2 p1 p2) fun _ _ e => e.back t)⟩
theorem WE.cmp {op : CmpOp} (h : WE X a ρ M fun x M1 => WE X b ρ M1 fun y M2 => VO X (compareOp op) x y M2 Q) (hm : behindInMarks op b = false := by first | exact nomark _ | with_unfolding_all rfl) : WE X (.Compare a [op] [b] pos) ρ M Q :=
  ⟨fun pins s σ H F I S => wpAny_Compare1 (two I S h fun u1 u2 s2 v1 v2 x y H2 F2 M2 I2 t r1 r2 p1 p2 q => thn (q pins s2 σ H2 F2 v1 v2 u1 u2 I2 t.good r1 r2 p1 p2) fun _ _ e => e.back t) hm⟩
theorem WE.chain {op op' : CmpOp} (h : WE X a ρ M fun x M1 => WE X b ρ M1 fun y M2 => VO X (compareOp op) x y M2 fun z M3 => ∃ k, z = .bl k ∧ (k = false → Q (.bl false) M3) ∧ (k = true → WE X c ρ M3 fun w M4 => VO X (compareOp op') y w M4 Q))
    (hm : lastMarks [op, op'] [b, c] = false := by with_unfolding_all rfl) : WE X (.Compare a [op, op'] [b, c] pos) ρ M Q := by
  refine ⟨fun pins s σ H F I S => ?_⟩
  refine Compare_chain (thn (h.run pins s σ H F I S) fun v s1 ⟨x1, H1, F1, M1, x, I1, r1, t1, p1, q1⟩ => chain_link (thn (q1.run pins s1 σ H1 F1 I1 (S.step t1)) fun u s2 ⟨x2, H2, F2, M2, y, I2, r2, t2, p2, q2⟩ =>
    thn (q2 pins s2 σ H2 F2 x1 x2 v u I2 t2.good r1 r2 (t2.rep p1) p2) fun d s3 ⟨x3, H3, F3, M3, z, I3, r3, t3, p3, k, e, q3, q4⟩ => ?_)) hm
  subst e
  cases p3
  cases r3
  refine wpAny_truthy_bool ?_
  have t := (t1.trans t2).trans t3
  cases k with
  | false => exact ite_ff ⟨.bl false, H3, F3, M3, _, I3, rfl, t, .bl _, q3 rfl⟩
  | true => exact ite_tt (chain_last (thn ((q4 rfl).run pins s3 σ H3 F3 I3 (S.step t)) fun w' s4 ⟨x4, H4, F4, M4, w, I4, r4, t4, p4, q5⟩ =>
      thn (q5 pins s4 σ H4 F4 x2 x4 u w' I4 t4.good r2 r4 ((t3.trans t4).rep p2) p4) fun _ _ e => e.back (t.trans t4)))

/-! ### tests -/
variable {QB : Bool → Mp → Prop}
theorem WT.cmp {op : CmpOp} (h : WE X a ρ M fun x M1 => WE X b ρ M1 fun y M2 => VO X (compareOp op) x y M2 fun z M3 => ∃ k, z = .bl k ∧ QB k M3) (hm : behindInMarks op b = false := by first | exact nomark _ | with_unfolding_all rfl) : WT X (.Compare a [op] [b] pos) ρ M QB := by
  refine ⟨fun pins s σ H F I S => ?_⟩
  refine wpAny_isTrue_Compare1 (two I S h fun u1 u2 s2 v1 v2 x y H2 F2 M2 I2 t r1 r2 p1 p2 q => thn (q pins s2 σ H2 F2 v1 v2 u1 u2 I2 t.good r1 r2 p1 p2) fun c s3 ⟨x3, H3, F3, M3, z, I3, r3, t3, p3, k, e, q3⟩ => ?_) hm
  subst e
  cases p3
  cases r3
  exact wpAny_truthy_bool ⟨H3, F3, M3, I3, t.trans t3, q3⟩
theorem WT.chain {op op' : CmpOp} (h : WE X a ρ M fun x M1 => WE X b ρ M1 fun y M2 => VO X (compareOp op) x y M2 fun z M3 => ∃ k, z = .bl k ∧ (k = false → QB false M3) ∧ (k = true → WE X c ρ M3 fun w M4 => VO X (compareOp op') y w M4 fun z M5 => ∃ k, z = .bl k ∧ QB k M5))
    (hm : lastMarks [op, op'] [b, c] = false := by with_unfolding_all rfl) : WT X (.Compare a [op, op'] [b, c] pos) ρ M QB := by
  refine ⟨fun pins s σ H F I S => ?_⟩
  refine isTrue_chain (thn (h.run pins s σ H F I S) fun v s1 ⟨x1, H1, F1, M1, x, I1, r1, t1, p1, q1⟩ => test_link (thn (q1.run pins s1 σ H1 F1 I1 (S.step t1)) fun u s2 ⟨x2, H2, F2, M2, y, I2, r2, t2, p2, q2⟩ =>
    thn (q2 pins s2 σ H2 F2 x1 x2 v u I2 t2.good r1 r2 (t2.rep p1) p2) fun d s3 ⟨x3, H3, F3, M3, z, I3, r3, t3, p3, k, e, q3, q4⟩ => ?_)) hm
  subst e
  cases p3
  cases r3
  refine wpAny_truthy_bool ?_
  have t := (t1.trans t2).trans t3
  cases k with
  | false => exact ite_ff ⟨H3, F3, M3, I3, t, q3 rfl⟩
  | true => 
    refine ite_tt (test_last (thn ((q4 rfl).run pins s3 σ H3 F3 I3 (S.step t)) fun w' s4 ⟨x4, H4, F4, M4, w, I4, r4, t4, p4, q5⟩ =>
      thn (q5 pins s4 σ H4 F4 x2 x4 u w' I4 t4.good r2 r4 ((t3.trans t4).rep p2) p4) fun d' s5 ⟨x5, H5, F5, M5, z, I5, r5, t5, p5, k, e, q6⟩ => ?_))
    subst e
    cases p5
    cases r5
    exact wpAny_truthy_bool ⟨H5, F5, M5, I5, (t.trans t4).trans t5, q6⟩
/-- an expression whose value is a bool -/
theorem WT.val {e : Expr} (h : WE X e ρ M fun z M1 => ∃ k, z = .bl k ∧ QB k M1) (he : ∀ whole, isTrue e X.env whole = (do let v ← whole; standAt e.pos; holding [v] (truthy v)) := by intro _; rfl) : WT X e ρ M QB := by
  refine ⟨fun pins s σ H F I S => ?_⟩
  refine isTrue_plain (thn (h.run pins s σ H F I S) fun v s1 ⟨x1, H1, F1, M1, z, I1, r1, t1, p1, k, e, q1⟩ => ?_) (he _)
  subst e
  cases p1
  cases r1
  exact wpAny_truthy_bool ⟨H1, F1, M1, I1, t1, q1⟩
variable {rest : List Expr}
theorem WT.not (h : WT X a ρ M fun k M1 => QB (!k) M1) : WT X (.UnaryOp .Not a pos) ρ M QB := by
  refine ⟨fun pins s σ H F I S => ?_⟩
  exact isTrue_not (thn (h.run pins s σ H F I S) fun k s1 ⟨H1, F1, M1, I1, t1, q⟩ => ⟨H1, F1, M1, I1, t1, q⟩)
theorem WW.and1 (h : WT X a ρ M QB) : WW X (.BoolOp .And [a] pos) ρ M QB := by
  refine ⟨fun wh pins s σ H F I S => ?_⟩
  refine isTrue_and (thn (h.run pins s σ H F I S) fun c s1 e => ?_)
  cases c with
  | true => exact isTrue_and_nil e
  | false => exact e
theorem WW.or1 (h : WT X a ρ M QB) : WW X (.BoolOp .Or [a] pos) ρ M QB := by
  refine ⟨fun wh pins s σ H F I S => ?_⟩
  refine isTrue_or (thn (h.run pins s σ H F I S) fun c s1 e => ?_)
  cases c with
  | false => exact isTrue_or_nil e
  | true => exact e
theorem WW.and (h : WT X a ρ M fun k M1 => (k = false → QB false M1) ∧ (k = true → WW X (.BoolOp .And (b :: rest) pos) ρ M1 QB)) : WW X (.BoolOp .And (a :: b :: rest) pos) ρ M QB := by
  refine ⟨fun wh pins s σ H F I S => ?_⟩
  refine isTrue_and (thn (h.run pins s σ H F I S) fun c s1 ⟨H1, F1, M1, I1, t1, q1, q2⟩ => ?_)
  cases c with
  | true => exact thn ((q2 rfl).run wh pins s1 σ H1 F1 I1 (S.step t1)) fun _ _ e => e.back t1
  | false => exact ⟨H1, F1, M1, I1, t1, q1 rfl⟩
theorem WW.or (h : WT X a ρ M fun k M1 => (k = true → QB true M1) ∧ (k = false → WW X (.BoolOp .Or (b :: rest) pos) ρ M1 QB)) : WW X (.BoolOp .Or (a :: b :: rest) pos) ρ M QB := by
  refine ⟨fun wh pins s σ H F I S => ?_⟩
  refine isTrue_or (thn (h.run pins s σ H F I S) fun c s1 ⟨H1, F1, M1, I1, t1, q1, q2⟩ => ?_)
  cases c with
  | false => exact thn ((q2 rfl).run wh pins s1 σ H1 F1 I1 (S.step t1)) fun _ _ e => e.back t1
  | true => exact ⟨H1, F1, M1, I1, t1, q1 rfl⟩
theorem WT.ww {e : Expr} (h : WW X e ρ M QB) : WT X e ρ M QB := ⟨fun pins s σ H F I S => h.run _ pins s σ H F I S⟩
/-! ### and, or, not as values (of bools) -/
theorem WE.one {op} (h : WE X a ρ M Q) : WE X (.BoolOp op [a] pos) ρ M Q := ⟨fun pins s σ H F I S => BoolOp_one (h.run pins s σ H F I S)⟩
theorem WE.and (h : WE X a ρ M fun z M1 => ∃ k, z = .bl k ∧ (k = false → Q (.bl false) M1) ∧ (k = true → WE X (.BoolOp .And (b :: rest) pos) ρ M1 Q)) : WE X (.BoolOp .And (a :: b :: rest) pos) ρ M Q := by
  refine ⟨fun pins s σ H F I S => ?_⟩
  refine BoolOp_and (thn (h.run pins s σ H F I S) fun v s1 ⟨x1, H1, F1, M1, z, I1, r1, t1, p1, k, e, q1, q2⟩ => ?_)
  subst e
  cases p1
  cases r1
  refine wpAny_truthy_bool ?_
  cases k with
  | true => exact thn ((q2 rfl).run pins s1 σ H1 F1 I1 (S.step t1)) fun _ _ e => e.back t1
  | false => exact ⟨.bl false, H1, F1, M1, _, I1, rfl, t1, .bl _, q1 rfl⟩
theorem WE.or (h : WE X a ρ M fun z M1 => ∃ k, z = .bl k ∧ (k = true → Q (.bl true) M1) ∧ (k = false → WE X (.BoolOp .Or (b :: rest) pos) ρ M1 Q)) : WE X (.BoolOp .Or (a :: b :: rest) pos) ρ M Q := by
  refine ⟨fun pins s σ H F I S => ?_⟩
  refine BoolOp_or (thn (h.run pins s σ H F I S) fun v s1 ⟨x1, H1, F1, M1, z, I1, r1, t1, p1, k, e, q1, q2⟩ => ?_)
  subst e
  cases p1
  cases r1
  refine wpAny_truthy_bool ?_
  cases k with
  | false => exact thn ((q2 rfl).run pins s1 σ H1 F1 I1 (S.step t1)) fun _ _ e => e.back t1
  | true => exact ⟨.bl true, H1, F1, M1, _, I1, rfl, t1, .bl _, q1 rfl⟩
theorem WE.not (h : WE X a ρ M fun z M1 => ∃ k, z = .bl k ∧ Q (.bl (!k)) M1) : WE X (.UnaryOp .Not a pos) ρ M Q := by
  refine ⟨fun pins s σ H F I S => ?_⟩
  refine UnaryOp_ (thn (h.run pins s σ H F I S) fun v s1 ⟨x1, H1, F1, M1, z, I1, r1, t1, p1, k, e, q1⟩ => ?_)
  subst e
  cases p1
  cases r1
  exact not_of (wpAny_truthy_bool ⟨.bl (!k), H1, F1, M1, _, I1, rfl, t1, .bl _, q1⟩)
theorem WE.ife (h : WT X c ρ M fun k M1 => (k = true → WE X a ρ M1 Q) ∧ (k = false → WE X b ρ M1 Q)) : WE X (.IfExp c a b pos) ρ M Q := by
  refine ⟨fun pins s σ H F I S => ?_⟩
  refine wpAny_IfExp (thn (h.run pins s σ H F I S) fun d s1 ⟨H1, F1, M1, I1, t1, q1, q2⟩ => ?_)
  cases d with
  | true => exact thn ((q1 rfl).run pins s1 σ H1 F1 I1 (S.step t1)) fun _ _ e => e.back t1
  | false => exact thn ((q2 rfl).run pins s1 σ H1 F1 I1 (S.step t1)) fun _ _ e => e.back t1

/-! ### arguments, displays -/
variable {QA : List D → Mp → Prop} {e : Expr} {es : List Expr}
theorem WA.nil (h : QA [] M) : WA X [] ρ M QA := ⟨fun _ _ _ _ H F I S => Calls.spliced_nil ⟨[], H, F, M, [], I, .nil, Stp.refl S.good, .nil, h⟩⟩
theorem WA.cons (h : WE X e ρ M fun x M1 => WA X es ρ M1 fun xs M2 => QA (x :: xs) M2) (hs : starEach (e :: es) X.env = (false, eval e X.env) :: starEach es X.env := by rfl) : WA X (e :: es) ρ M QA := by
  refine ⟨fun pos pins s σ H F I S => ?_⟩
  rw [hs]
  show wpAny _ _ (spliced ((false, eval e X.env) :: backTo pos (starEach es X.env))) _ _ s
  refine Calls.spliced_cons (thn (h.run pins s σ H F I S) fun u s1 ⟨x, H1, F1, M1, d, I1, r1, t1, p1, q1⟩ => ?_)
  exact thn (q1.run pos pins s1 σ H1 F1 I1 (S.step t1)) fun us s2 ⟨xs, H2, F2, M2, ds, I2, r2, t2, p2, q2⟩ => ⟨x :: xs, H2, F2, M2, d :: ds, I2, .cons r1 r2, t1.trans t2, .cons (t2.rep p1) p2, q2⟩
theorem WE.tuple {k} (h : WA X es ρ M fun xs M1 => xs.length ≤ sizeLine ∧ Q (.tup xs) M1) : WE X (.Tuple es k pos) ρ M Q := by
  refine ⟨fun pins s σ H F I S => ?_⟩
  refine wpAny_Tuple_spliced (thn (h.run pos pins s σ H F I S) fun us s1 ⟨xs, H1, F1, M1, ds, I1, r, t1, p1, z, q⟩ => ?_)
  have hl : us.length = ds.length := r.length.symm.trans p1.length
  refine ⟨by rw [hl]; exact z, ?_⟩
  have hf : H1 s1.heap.objs.size = none := I1.hok.fresh (Nat.le_refl _)
  have t2 := Stp.new (o := .tup xs) t1.good hf
  refine ⟨.ref s1.heap.objs.size, upd H1 s1.heap.objs.size (.tup xs), upd F1 s1.heap.objs.size (.tup xs), M1, _, I1.laid (t' := s1.toks) (fun b u e => Heap.get?_push_of_some _ e) (Nat.le_refl _) ?_, rfl, t1.trans t2, .tup (.of ?_) (t2.reps p1), q⟩
  · exact ⟨by rw [p1.length]; exact z, us, r, ⟨_, Heap.get?_push_size _ rfl, rfl, _, rfl⟩⟩
  · exact upd_same
/-- a list that nobody writes -/
theorem WE.list (h : WA X es ρ M fun xs M1 => xs.length ≤ sizeLine ∧ Q (.lst xs) M1) : WE X (.List es pos) ρ M Q := by
  refine ⟨fun pins s σ H F I S => ?_⟩
  refine wpAny_List_spliced (thn (h.run pos pins s σ H F I S) fun us s1 ⟨xs, H1, F1, M1, ds, I1, r, t1, p1, z, q⟩ => ?_)
  have hl : us.length = ds.length := r.length.symm.trans p1.length
  refine ⟨by rw [hl]; exact z, ?_⟩
  have hf : H1 s1.heap.objs.size = none := I1.hok.fresh (Nat.le_refl _)
  have t2 := Stp.new (o := .lst xs) t1.good hf
  refine ⟨.ref s1.heap.objs.size, upd H1 s1.heap.objs.size (.lst xs), upd F1 s1.heap.objs.size (.lst xs), M1, _, I1.laid (t' := s1.toks) (fun b u e => Heap.get?_push_of_some _ e) (Nat.le_refl _) ?_, rfl, t1.trans t2, .lst (.of ?_) (t2.reps p1), q⟩
  · exact ⟨by rw [p1.length]; exact z, us, 0, r, Heap.get?_push_size _ rfl⟩
  · exact upd_same
/-- a list that will be written -/
theorem WE.listM (h : WA X es ρ M fun xs M1 => xs.length ≤ sizeLine ∧ ∀ p, M1 p = none → Q (.ref p) (mset M1 p (.lst xs))) : WE X (.List es pos) ρ M Q := by
  refine ⟨fun pins s σ H F I S => ?_⟩
  refine wpAny_List_spliced (thn (h.run pos pins s σ H F I S) fun us s1 ⟨xs, H1, F1, M1, ds, I1, r, t1, p1, z, q⟩ => ?_)
  have hl : us.length = ds.length := r.length.symm.trans p1.length
  refine ⟨by rw [hl]; exact z, ?_⟩
  have hf : H1 s1.heap.objs.size = none := I1.hok.fresh (Nat.le_refl _)
  have t2 := Stp.newM t1.good hf (.lst p1)
  refine ⟨.ref s1.heap.objs.size, upd H1 s1.heap.objs.size (.lst xs), F1, _, _, I1.laid (t' := s1.toks) (fun b u e => Heap.get?_push_of_some _ e) (Nat.le_refl _) ?_, rfl, t1.trans t2, .ref _, q _ (t1.good.free hf)⟩
  exact ⟨by rw [p1.length]; exact z, us, 0, r, Heap.get?_push_size _ rfl⟩
end
end TL
end
section
set_option maxRecDepth 100000
/-! TC: statements, targets, loops, comprehensions, over tree values. -/
namespace TL
open PySem PySem.Spec PyProof.Rows L2

/-- what is wanted behind a statement -/
structure TEs where
  nx : En → Mp → Prop
  rt : DQ
  bk : En → Mp → Prop := fun _ _ => False
  ct : En → Mp → Prop := fun _ _ => False

def NEnd (X : Cx) (H F : Hp) (M : Mp) (R : En → Mp → Prop) (σ' : SS) (H' : Hp) : Prop := ∃ F' M' ρ', Stp X.K H F M H' F' M' ∧ Sim X.K H' F' M' σ' ρ' ∧ R ρ' M'
def REnd (X : Cx) (H F : Hp) (M : Mp) (Q : DQ) (v : V) (H' : Hp) : Prop := ∃ F' M' d, Stp X.K H F M H' F' M' ∧ Rep X.K F' v d ∧ Q d M'
def TEs.ends (X : Cx) (H F : Hp) (M : Mp) (E : TEs) : Ends := { nx := NEnd X H F M E.nx, rt := REnd X H F M E.rt, bk := NEnd X H F M E.bk, ct := NEnd X H F M E.ct }
theorem NEnd.back {X : Cx} {H F H1 F1 : Hp} {M M1 : Mp} {R : En → Mp → Prop} {σ' : SS} {H' : Hp} (t : Stp X.K H F M H1 F1 M1) (h : NEnd X H1 F1 M1 R σ' H') : NEnd X H F M R σ' H' :=
  let ⟨F', M', ρ', t', S, r⟩ := h; ⟨F', M', ρ', t.trans t', S, r⟩
theorem REnd.back {X : Cx} {H F H1 F1 : Hp} {M M1 : Mp} {Q : DQ} {v : V} {H' : Hp} (t : Stp X.K H F M H1 F1 M1) (h : REnd X H1 F1 M1 Q v H') : REnd X H F M Q v H' :=
  let ⟨F', M', d, t', S, r⟩ := h; ⟨F', M', d, t.trans t', S, r⟩

/-- a block; a statement; a target -/
structure WSs (X : Cx) (sts : List Stmt) (ρ : En) (M : Mp) (E : TEs) : Prop where
  run : ∀ (pins : Pins) (s : Shared) (σ : SS) (H F : Hp), Inv X pins σ H s → Sim X.K H F M σ ρ → wpAny (model X.prog X.w) X.A (execs sts X.env) (SP X pins (E.ends X H F M)) X.xe s
structure WS (X : Cx) (st : Stmt) (ρ : En) (M : Mp) (E : TEs) : Prop where
  run : ∀ (pins : Pins) (s : Shared) (σ : SS) (H F : Hp), Inv X pins σ H s → Sim X.K H F M σ ρ → wpAny (model X.prog X.w) X.A (exec st X.env) (SP X pins (E.ends X H F M)) X.xe s
structure WG (X : Cx) (tg : Expr) (x : D) (ρ : En) (M : Mp) (R : En → Mp → Prop) : Prop where
  run : ∀ (pins : Pins) (s : Shared) (σ : SS) (H F : Hp) (v : V) (u : Value), Inv X pins σ H s → Sim X.K H F M σ ρ → RelV v u → Rep X.K F v x →
    wpAny (model X.prog X.w) X.A (assign tg X.env u) (fun _ s' => ∃ σ' H', Inv X pins σ' H' s' ∧ NEnd X H F M R σ' H') X.xe s
structure WGs (X : Cx) (ts : List Expr) (xs : List D) (ρ : En) (M : Mp) (R : En → Mp → Prop) : Prop where
  run : ∀ (pins : Pins) (s : Shared) (σ : SS) (H F : Hp) (vs : List V) (us : List Value), Inv X pins σ H s → Sim X.K H F M σ ρ → Vals vs us → Reps X.K F vs xs →
    wpAny (model X.prog X.w) X.A (assignInOrder ((assignEach ts X.env).map (·.2)) us) (fun _ s' => ∃ σ' H', Inv X pins σ' H' s' ∧ NEnd X H F M R σ' H') X.xe s

theorem SP.imp {X : Cx} {pins : Pins} {D D' : Ends} {f : Flow} {s' : Shared} (h : SP X pins D f s') (h1 : ∀ σ H, D.nx σ H → D'.nx σ H) (h2 : ∀ v H, D.rt v H → D'.rt v H) (h3 : ∀ σ H, D.bk σ H → D'.bk σ H) (h4 : ∀ σ H, D.ct σ H → D'.ct σ H) : SP X pins D' f s' := by
  cases f with
  | next => obtain ⟨σ, H, I, q⟩ := h; exact ⟨σ, H, I, h1 _ _ q⟩
  | brk => obtain ⟨σ, H, I, q⟩ := h; exact ⟨σ, H, I, h3 _ _ q⟩
  | cont => obtain ⟨σ, H, I, q⟩ := h; exact ⟨σ, H, I, h4 _ _ q⟩
  | ret u => obtain ⟨v, σ, H, I, r, q⟩ := h; exact ⟨v, σ, H, I, r, h2 _ _ q⟩
theorem SP.back {X : Cx} {pins : Pins} {H F H1 F1 : Hp} {M M1 : Mp} {E : TEs} {f : Flow} {s' : Shared} (t : Stp X.K H F M H1 F1 M1) (h : SP X pins (E.ends X H1 F1 M1) f s') : SP X pins (E.ends X H F M) f s' :=
  SP.imp h (fun _ _ q => q.back t) (fun _ _ q => q.back t) (fun _ _ q => q.back t) (fun _ _ q => q.back t)

section
variable {X : Cx} {pins : Pins} {σ : SS} {H F H1 F1 : Hp} {M M1 : Mp} {ρ ρ' : En} {s : Shared} {E : TEs} {sts rest : List Stmt} {st : Stmt} {pos : Pos} {e : Expr}
theorem WSs.pss {t : TS} (p : PSs X sts t) (h : ∀ σ H F, Sim X.K H F M σ ρ → t (E.ends X H F M) σ H) : WSs X sts ρ M E := ⟨fun pins s σ H F I S => p.run pins s σ H _ I (h σ H F S)⟩
theorem WS.ps {t : TS} (p : PS X st t) (h : ∀ σ H F, Sim X.K H F M σ ρ → t (E.ends X H F M) σ H) : WS X st ρ M E := ⟨fun pins s σ H F I S => p.run pins s σ H _ I (h σ H F S)⟩
theorem WSs.le (h : WSs X sts ρ M E) (l : Le ρ ρ') : WSs X sts ρ' M E := ⟨fun pins s σ H F I S => h.run pins s σ H F I (S.le l)⟩
theorem WSs.imp {E' : TEs} (h : WSs X sts ρ M E) (h1 : ∀ ρ M, E.nx ρ M → E'.nx ρ M) (h2 : ∀ d M, E.rt d M → E'.rt d M) (h3 : ∀ ρ M, E.bk ρ M → E'.bk ρ M) (h4 : ∀ ρ M, E.ct ρ M → E'.ct ρ M) : WSs X sts ρ M E' :=
  ⟨fun pins s σ H F I S => thn (h.run pins s σ H F I S) fun f s' q => SP.imp q (fun _ _ ⟨a, b, c, d, e, r⟩ => ⟨a, b, c, d, e, h1 _ _ r⟩) (fun _ _ ⟨a, b, c, d, e, r⟩ => ⟨a, b, c, d, e, h2 _ _ r⟩) (fun _ _ ⟨a, b, c, d, e, r⟩ => ⟨a, b, c, d, e, h3 _ _ r⟩) (fun _ _ ⟨a, b, c, d, e, r⟩ => ⟨a, b, c, d, e, h4 _ _ r⟩)⟩
/-- the i-th name's list is written no more -/
theorem WSs.freeze (i : Nat) {a : Addr} {ds : List D} (hi : ρ[i]? = some (some (.ref a))) (hm : M a = some (.lst ds)) (h : WSs X sts (ρ.set i (some (.lst ds))) (mdel M a) E) : WSs X sts ρ M E := by
  refine ⟨fun pins s σ H F I S => ?_⟩
  obtain ⟨vs, hv, rv⟩ := S.good.lst hm
  have t := Stp.freeze S.good hm hv
  obtain ⟨v, e1, r1⟩ := S.slot i _ hi
  cases r1
  have S1 := (S.step t).set (v := .ref a) (d := .lst ds) i (.lst (.of upd_same) (t.reps rv))
  have eσ : σ.set i (some (.ref a)) = σ := by
    obtain ⟨hl, e2⟩ := List.getElem?_eq_some_iff.mp e1
    rw [← e2]; exact List.set_getElem_self hl
  rw [eσ] at S1
  exact thn (h.run pins s σ H _ I S1) fun _ _ q => SP.back t q
theorem WSs.freezeD (i : Nat) {a : Addr} {ds : List (Key × D)} (hi : ρ[i]? = some (some (.ref a))) (hm : M a = some (.dic ds)) (h : WSs X sts (ρ.set i (some (.dic ds))) (mdel M a) E) : WSs X sts ρ M E := by
  refine ⟨fun pins s σ H F I S => ?_⟩
  obtain ⟨vs, hv, rv⟩ := S.good.dic hm
  have t := Stp.freeze S.good hm hv
  obtain ⟨v, e1, r1⟩ := S.slot i _ hi
  cases r1
  have S1 := (S.step t).set (v := .ref a) (d := .dic ds) i (.dic upd_same (rv.mono t.sub))
  have eσ : σ.set i (some (.ref a)) = σ := by
    obtain ⟨hl, e2⟩ := List.getElem?_eq_some_iff.mp e1
    rw [← e2]; exact List.set_getElem_self hl
  rw [eσ] at S1
  exact thn (h.run pins s σ H _ I S1) fun _ _ q => SP.back t q

theorem WSs.nil (h : E.nx ρ' M) (l : Le ρ' ρ) : WSs X [] ρ M E := .pss pss_nil fun σ H F S => ⟨F, M, ρ', Stp.refl S.good, S.le l, h⟩
theorem WSs.done (h : E.nx ρ M) : WSs X [] ρ M E := .nil h (Le.refl ρ)
theorem WSs.cons (h : WS X st ρ M { E with nx := fun ρ' M' => WSs X rest ρ' M' E }) : WSs X (st :: rest) ρ M E := by
  refine ⟨fun pins s σ H F I S => ?_⟩
  refine wpAny_execs_cons (thn (h.run pins s σ H F I S) fun f s1 q => ?_)
  cases f with
  | next =>
    obtain ⟨σ', H', I', F', M', ρ', t, S', q⟩ := q
    exact thn (q.run pins s1 σ' H' F' I' S') fun _ _ q => SP.back t q
  | ret v => exact q
  | brk => exact q
  | cont => exact q
theorem WSs.one (h : WS X st ρ M E) : WSs X [st] ρ M E := .cons ⟨fun pins s σ H F I S => thn (h.run pins s σ H F I S) fun f s1 q => SP.imp q (fun _ _ ⟨a, b, c, d, e, r⟩ => ⟨a, b, c, d, e, .done r⟩) (fun _ _ q => q) (fun _ _ q => q) (fun _ _ q => q)⟩
/-- a middle point: R holds behind the first statement -/
theorem WSs.cut (R : En → Mp → Prop) (h : WS X st ρ M { E with nx := R }) (h2 : ∀ ρ' M', R ρ' M' → WSs X rest ρ' M' E) : WSs X (st :: rest) ρ M E :=
  .cons ⟨fun pins s σ H F I S => thn (h.run pins s σ H F I S) fun f s1 q => SP.imp q (fun _ _ ⟨a, b, c, d, e, r⟩ => ⟨a, b, c, d, e, h2 _ _ r⟩) (fun _ _ q => q) (fun _ _ q => q) (fun _ _ q => q)⟩
theorem WS.pass (h : E.nx ρ M) : WS X (.Pass pos) ρ M E := .ps ps_pass fun σ H F S => ⟨F, M, ρ, Stp.refl S.good, S, h⟩
theorem WS.brk (h : E.bk ρ M) : WS X (.Break pos) ρ M E := .ps ps_break fun σ H F S => ⟨F, M, ρ, Stp.refl S.good, S, h⟩
theorem WS.cont (h : E.ct ρ M) : WS X (.Continue pos) ρ M E := .ps ps_continue fun σ H F S => ⟨F, M, ρ, Stp.refl S.good, S, h⟩
theorem WS.expr (h : WE X e ρ M fun _ M' => E.nx ρ M') (hs : swapsWith e none pos.line X.env = pure false := by rfl) : WS X (.Expr e pos) ρ M E :=
  ⟨fun pins s σ H F I S => wpAny_Expr_any (thn (h.run pins s σ H F I S) fun v s1 ⟨x, H1, F1, M1, d, I1, r1, t1, p1, q⟩ => ⟨σ, H1, I1, F1, M1, ρ, t1, S.step t1, q⟩) I.quiet hs⟩
theorem WS.ret (h : WE X e ρ M E.rt) : WS X (.Return (some e) pos) ρ M E :=
  ⟨fun pins s σ H F I S => wpAny_Return_some (thn (h.run pins s σ H F I S) fun v s1 ⟨x, H1, F1, M1, d, I1, r1, t1, p1, q⟩ => ⟨x, σ, H1, I1, r1, F1, M1, d, t1, p1, q⟩)⟩
theorem WS.retN (h : E.rt .non M) : WS X (.Return none pos) ρ M E := .ps ps_retN fun σ H F S => ⟨F, M, .non, Stp.refl S.good, .non, h⟩
theorem WS.ite {c : Expr} {a b : List Stmt} (h : WT X c ρ M fun k M' => (k = true → WSs X a ρ M' E) ∧ (k = false → WSs X b ρ M' E)) : WS X (.If c a b pos) ρ M E := by
  refine ⟨fun pins s σ H F I S => ?_⟩
  refine wpAny_If (thn (h.run pins s σ H F I S) fun d s1 ⟨H1, F1, M1, I1, t1, q1, q2⟩ => ?_)
  cases d with
  | true => exact thn ((q1 rfl).run pins s1 σ H1 F1 I1 (S.step t1)) fun _ _ q => SP.back t1 q
  | false => exact thn ((q2 rfl).run pins s1 σ H1 F1 I1 (S.step t1)) fun _ _ q => SP.back t1 q

/-! ### targets -/
variable {R : En → Mp → Prop} {x : D} {n : Str}
theorem WG.name (i : Nat) (h : R (ρ.set i (some x)) M) (hN : X.N.Nodup) (hi : X.N[i]? = some n := by rfl) (hx : Loc X.env.scope n := by first | exact .inl rfl | exact .inr rfl)
    (hf : X.fn n = true ∨ X.env.scope.names.lookup n = some .local := by first | exact .inl rfl | exact .inr rfl) : WG X (.Name n pos) x ρ M R :=
  ⟨fun pins s σ H F v u I S r rp => wpAny_assign_Name (store_ok I hN hi hx r (fun s' I' => ⟨_, H, I', F, M, _, Stp.refl S.good, S.set i rp, h⟩) hf)⟩
theorem WGs.nil (h : R ρ M) : WGs X [] [] ρ M R := by
  refine ⟨fun pins s σ H F vs us I S r rp => ?_⟩
  cases rp
  cases r
  exact assignInOrder_nil ⟨σ, H, I, F, M, ρ, Stp.refl S.good, S, h⟩
theorem WGs.cons {es : List Expr} {xs : List D} (h : WG X e x ρ M fun ρ1 M1 => WGs X es xs ρ1 M1 R) (hs : (assignEach (e :: es) X.env).map (·.2) = assign e X.env :: (assignEach es X.env).map (·.2) := by rfl) : WGs X (e :: es) (x :: xs) ρ M R := by
  refine ⟨fun pins s σ H F vs us I S r rp => ?_⟩
  cases rp with
  | cons p1 p2 =>
    cases r with
    | cons r1 r2 =>
      rw [hs]
      refine assignInOrder_cons (thn (h.run pins s σ H F _ _ I S r1 p1) fun _ s1 ⟨σ1, H1, I1, F1, M1, ρ1, t1, S1, q1⟩ => ?_)
      exact thn (q1.run pins s1 σ1 H1 F1 _ _ I1 S1 r2 (t1.reps p2)) fun _ s2 ⟨σ2, H2, I2, q2⟩ => ⟨σ2, H2, I2, q2.back t1⟩
theorem WG.tup {es : List Expr} {k : Nat} {xs : List D} (hc : X.calm = true) (h : WGs X es xs ρ M R) (hl : xs.length = (assignEach es X.env).length := by rfl) (hst : (assignEach es X.env).findIdx? (·.1) = none := by rfl) : WG X (.Tuple es k pos) (.tup xs) ρ M R := by
  refine ⟨fun pins s σ H F v u I S r rp => ?_⟩
  cases rp with
  | tup hq hr =>
    cases r
    obtain ⟨its, rv, ht, hz⟩ := I.tuple (S.good.sub.sqT hq)
    refine assign_Tuple_tuple (I.ok.hd hc) ht (by simp [← hl, ← rv.length, hr.length]) hst fun h' hx => ?_
    have I1 : Inv X pins σ H { s with heap := h' } := I.kept (t' := s.toks) fun b o e => hx b o (Nat.ne_of_lt (Heap.lt_size e)) e
    exact h.run pins _ σ H F _ _ I1 S (by simpa using rv) hr
theorem WS.asg {tg : Expr} (h : WE X e ρ M fun x M1 => WG X tg x ρ M1 E.nx) (hs : swapsWithSole [tg] e pos.line X.env = pure false := by rfl) (hw : swappedStores [tg] e X.env = pure none := by rfl)
    (h1 : (assignEach [tg] X.env).map (·.2) = [assign tg X.env] := by rfl) : WS X (.Assign [tg] e pos) ρ M E := by
  refine ⟨fun pins s σ H F I S => ?_⟩
  refine wpAny_Assign_stores (thn (h.run pins s σ H F I S) fun v s1 ⟨x, H1, F1, M1, d, I1, r1, t1, p1, q⟩ => ?_) hs hw
  rw [h1]
  exact thn (q.run pins s1 σ H1 F1 x v I1 (S.step t1) r1 p1) fun _ s2 ⟨σ2, H2, I2, q2⟩ => ⟨σ2, H2, I2, q2.back t1⟩
theorem WS.set (i : Nat) {pos' : Pos} (h : WE X e ρ M fun x M1 => E.nx (ρ.set i (some x)) M1) (hN : X.N.Nodup) (hi : X.N[i]? = some n := by rfl) (hx : Loc X.env.scope n := by first | exact .inl rfl | exact .inr rfl)
    (hs : swapsWith e (some (.Name n pos')) pos.line X.env = pure false := by rfl) (hf : X.fn n = true ∨ X.env.scope.names.lookup n = some .local := by first | exact .inl rfl | exact .inr rfl) : WS X (.Assign [.Name n pos'] e pos) ρ M E := by
  refine ⟨fun pins s σ H F I S => ?_⟩
  refine wpAny_Assign_Name (thn (h.run pins s σ H F I S) fun v s1 ⟨y, H1, F1, M1, d, I1, r1, t1, p1, q⟩ => ?_) hs
  exact store_ok I1 hN hi hx r1 (fun s2 I2 => ⟨_, H1, I2, F1, M1, _, t1, (S.step t1).set i p1, q⟩) hf
end
end TL
end
section
set_option maxRecDepth 100000
/-! TD: what is walked, for, while, list comprehensions, over tree values. -/
namespace TL
open PySem PySem.Spec PyProof.Rows L2

section
variable {X : Cx}
/-- the layer's readings, from the tree words -/
def lTS (X : Cx) (sts : List Stmt) : TS := fun D σ H => ∃ F M ρ E, Sim X.K H F M σ ρ ∧ WSs X sts ρ M E ∧ (∀ σ' H', NEnd X H F M E.nx σ' H' → D.nx σ' H') ∧ (∀ v H', REnd X H F M E.rt v H' → D.rt v H') ∧
  (∀ σ' H', NEnd X H F M E.bk σ' H' → D.bk σ' H') ∧ (∀ σ' H', NEnd X H F M E.ct σ' H' → D.ct σ' H')
theorem lTS_ok {sts : List Stmt} : PSs X sts (lTS X sts) :=
  ⟨fun pins s σ H D I ⟨F, M, ρ, E, S, h, h1, h2, h3, h4⟩ => thn (h.run pins s σ H F I S) fun _ _ q => SP.imp q h1 h2 h3 h4⟩
def lTG (X : Cx) (tg : Expr) : TG := fun v σ H Q => ∃ F M ρ x R, Sim X.K H F M σ ρ ∧ Rep X.K F v x ∧ WG X tg x ρ M R ∧ ∀ σ' H', NEnd X H F M R σ' H' → Q σ' H'
theorem lTG_ok {tg : Expr} : PG X tg (lTG X tg) :=
  ⟨fun pins s σ H v u Q I r ⟨F, M, ρ, x, R, S, rp, h, hq⟩ => thn (h.run pins s σ H F v u I S r rp) fun _ s' ⟨σ', H', I', q⟩ => ⟨σ', H', I', hq _ _ q⟩⟩
def lTE (X : Cx) (e : Expr) : TE := fun σ H Q => ∃ F M ρ QD, Sim X.K H F M σ ρ ∧ WE X e ρ M QD ∧ ∀ v H', REnd X H F M QD v H' → Q v H'
theorem lTE_ok {e : Expr} : PE X e (lTE X e) :=
  ⟨fun pins s σ H Q I ⟨F, M, ρ, QD, S, h, hq⟩ => thn (h.run pins s σ H F I S) fun _ s' ⟨v, H', F', M', d, I', r, t, rp, q⟩ => ⟨v, H', I', r, hq v H' ⟨F', M', d, t, rp, q⟩⟩⟩
def lTT (X : Cx) (e : Expr) : TT := fun σ H Q => ∃ F M ρ QB, Sim X.K H F M σ ρ ∧ WT X e ρ M QB ∧ ∀ b H' F' M', Stp X.K H F M H' F' M' → QB b M' → Q b H'
theorem lTT_ok {e : Expr} : PT X e (lTT X e) :=
  ⟨fun pins s σ H Q I ⟨F, M, ρ, QB, S, h, hq⟩ => thn (h.run pins s σ H F I S) fun _ s' ⟨H', F', M', I', t, q⟩ => ⟨H', I', hq _ H' F' M' t q⟩⟩
def lTA (X : Cx) (es : List Expr) : TA := fun σ H Q => ∃ F M ρ QA, Sim X.K H F M σ ρ ∧ WA X es ρ M QA ∧ ∀ vs H' F' M' ds, Stp X.K H F M H' F' M' → Reps X.K F' vs ds → QA ds M' → Q vs H'
theorem lTA_ok {es : List Expr} : PA X es (lTA X es) :=
  ⟨fun pos pins s σ H Q I ⟨F, M, ρ, QA, S, h, hq⟩ => thn (h.run pos pins s σ H F I S) fun _ s' ⟨vs, H', F', M', ds, I', r, t, rp, q⟩ => ⟨vs, H', I', r, hq vs H' F' M' ds t rp q⟩⟩

/-! ### what is walked -/
/-- the iterator J yields the items xs, whatever else is done to what may be written -/
def Walks (K : PySem.W.Frag) (J : It) (H0 F0 : Hp) (M0 : Mp) (xs : List D) : Prop :=
  ∀ i H F M, Stp K H0 F0 M0 H F M → (i < xs.length → J.go i H ∧ ∀ x H1, J.yld i H x H1 → ∃ F1 d, xs[i]? = some d ∧ Stp K H F M H1 F1 M ∧ Rep K F1 x d) ∧ (i = xs.length → J.stop i H)
def WI (X : Cx) (tg iter : Expr) (ρ : En) (M : Mp) (R : List D → Mp → Prop) : Prop :=
  ∃ wi, PI X tg iter wi ∧ ∀ σ H F, Sim X.K H F M σ ρ → ∀ R' : It → Hp → Prop, (∀ J H1 F1 M1 xs, Stp X.K H F M H1 F1 M1 → Walks X.K J H1 F1 M1 xs → R xs M1 → R' J H1) → wi σ H R'
theorem Walks.list {K : PySem.W.Frag} {H F : Hp} {M : Mp} {a : Addr} {vs : List V} {xs : List D} (h : SqL K F a vs) (r : Reps K F vs xs) : Walks K (Itl K a) H F M xs := by
  intro i H1 F1 M1 t
  have q : SqL K H1 a vs := t.good.sub.sqL (t.sub.sqL h)
  have el := r.length
  refine ⟨fun hi => ⟨⟨vs, vs[i]'(by omega), q, List.getElem?_eq_getElem (by omega)⟩, fun x H2 hy => ?_⟩, fun hi => ⟨vs, q, by omega⟩⟩
  obtain ⟨e, f⟩ := hy
  have e : H2 = H1 := by first | exact e | exact e.symm
  subst e
  obtain ⟨d, hd, rd⟩ := r.get' (f vs q)
  exact ⟨F1, d, hd, Stp.refl t.good, t.rep rd⟩
theorem Walks.tup {K : PySem.W.Frag} {H F : Hp} {M : Mp} {a : Addr} {vs : List V} {xs : List D} (h : SqT K F a vs) (r : Reps K F vs xs) : Walks K (Itt K a) H F M xs := by
  intro i H1 F1 M1 t
  have q : SqT K H1 a vs := t.good.sub.sqT (t.sub.sqT h)
  have el := r.length
  refine ⟨fun hi => ⟨⟨vs, vs[i]'(by omega), q, List.getElem?_eq_getElem (by omega)⟩, fun x H2 hy => ?_⟩, fun hi => ⟨vs, q, by omega⟩⟩
  obtain ⟨e, f⟩ := hy
  have e : H2 = H1 := by first | exact e | exact e.symm
  subst e
  obtain ⟨d, hd, rd⟩ := r.get' (f vs q)
  exact ⟨F1, d, hd, Stp.refl t.good, t.rep rd⟩
/-- range items -/
def rng (lo : Int) (n : Nat) : List D := (List.range n).map fun (i : Nat) => D.int (lo + (i : Int))
theorem Walks.range {K : PySem.W.Frag} {H F : Hp} {M : Mp} {lo : Int} {n : Nat} : Walks K (Itr lo n) H F M (rng lo n) := by
  intro i H1 F1 M1 t
  have el : (rng lo n).length = n := by simp [rng]
  rw [el]
  refine ⟨fun hi => ⟨hi, fun x H2 hy => ?_⟩, fun hi => Nat.le_of_eq hi.symm⟩
  obtain ⟨e1, e2⟩ := hy
  subst e1 e2
  refine ⟨F1, .int (lo + i), ?_, Stp.refl t.good, .int _⟩
  simp [rng, hi]
variable {tg e : Expr} {ρ : En} {M : Mp} {R : List D → Mp → Prop}
/-- over a list, a tuple -/
theorem WI.list (h : WE X e ρ M fun d M1 => ∃ xs, d = .lst xs ∧ R xs M1) : WI X tg e ρ M R := by
  refine ⟨_, pi_list lTE_ok, fun σ H F S R' hR => ⟨F, M, ρ, _, S, h, fun v H1 ⟨F1, M1, d, t, rp, xs, ed, q⟩ => ?_⟩⟩
  subst ed
  cases rp with
  | lst hs hr => exact ⟨_, rfl, ⟨_, t.good.sub.sqL (.inl hs)⟩, hR _ H1 F1 M1 xs t (Walks.list (.inl hs) hr) q⟩
theorem WI.tup (h : WE X e ρ M fun d M1 => ∃ xs, d = .tup xs ∧ R xs M1) : WI X tg e ρ M R := by
  refine ⟨_, pi_tup lTE_ok, fun σ H F S R' hR => ⟨F, M, ρ, _, S, h, fun v H1 ⟨F1, M1, d, t, rp, xs, ed, q⟩ => ?_⟩⟩
  subst ed
  cases rp with
  | tup hs hr => exact ⟨_, rfl, ⟨_, t.good.sub.sqT hs⟩, hR _ H1 F1 M1 xs t (Walks.tup hs hr) q⟩
variable {p pos : Pos}
theorem WI.range1 {a : Expr} (hm : X.mg "range" = none) (h : WE X a ρ M fun d M1 => ∃ j : Int, d = .int j ∧ -(2 ^ 62) ≤ j ∧ j < 2 ^ 62 ∧ R (rng 0 j.toNat) M1) (hg : Gl X "range" := by rfl) (hs : starEach [a] X.env = [(false, eval a X.env)] := by rfl) : WI X tg (.Call (.Name "range" p) [a] [] pos) ρ M R := by
  refine ⟨_, pi_range1 hg hm (pa_cons (lTE_ok (e := a)) pa_nil (by rw [hs]; rfl)) hs, fun σ H F S R' hR => ⟨F, M, ρ, _, S, h, fun v H1 ⟨F1, M1, d, t, rp, j, ed, q1, q2, q⟩ => ?_⟩⟩
  subst ed
  cases rp
  exact ⟨j, rfl, q1, q2, hR _ H1 F1 M1 _ t Walks.range q⟩
theorem WI.range2 {a b : Expr} (hm : X.mg "range" = none) (h : WE X a ρ M fun c M1 => WE X b ρ M1 fun d M2 => ∃ i j : Int, c = .int i ∧ d = .int j ∧ (-(2 ^ 62) ≤ i ∧ i < 2 ^ 62 ∧ -(2 ^ 62) ≤ j ∧ j < 2 ^ 62) ∧ R (rng i (j - i).toNat) M2) (hg : Gl X "range" := by rfl)
    (hs : starEach [a, b] X.env = [(false, eval a X.env), (false, eval b X.env)] := by rfl) (hs2 : starEach [b] X.env = [(false, eval b X.env)] := by rfl) : WI X tg (.Call (.Name "range" p) [a, b] [] pos) ρ M R := by
  refine ⟨_, pi_range2 hg hm (pa_cons (lTE_ok (e := a)) (pa_cons (lTE_ok (e := b)) pa_nil (by rw [hs2]; rfl)) (by rw [hs, hs2])) hs hs2, fun σ H F S R' hR => ⟨F, M, ρ, _, S, h, fun v H1 ⟨F1, M1, c, t, rp, q0⟩ => ⟨F1, M1, ρ, _, S.step t, q0, fun v2 H2 ⟨F2, M2, d, t2, rp2, i, j, e1, e2, q1, q⟩ => ?_⟩⟩⟩
  subst e1 e2
  cases rp
  cases rp2
  exact ⟨i, j, rfl, q1, hR _ H2 F2 M2 _ (t.trans t2) Walks.range q⟩

/-! ### for -/
def ForT (X : Cx) (tg : Expr) (body : List Stmt) (E : TEs) : List D → En → Mp → Prop
  | [], ρ, M => ∃ ρt, Le ρt ρ ∧ E.nx ρt M
  | x :: xs, ρ, M => WG X tg x ρ M fun ρ1 M1 => WSs X body ρ1 M1 { nx := ForT X tg body E xs, ct := ForT X tg body E xs, rt := E.rt, bk := E.nx }
theorem WS.for {iter : Expr} {body : List Stmt} {E : TEs} (hp : PassesOwn (model X.prog X.w) X.A X.env X.xe) (hc : X.calm = true) (h : WI X tg iter ρ M fun xs M1 => ForT X tg body E xs ρ M1)
    (hs : ∀ x, foldedSetIterable iter X.env x = pure x := by intro _; rfl) : WS X (.For tg iter body [] pos) ρ M E := by
  obtain ⟨wi, hi, h⟩ := h
  refine .ps (ps_for hp hc hi lTG_ok lTS_ok hs) fun σ0 H0 F0 S0 => ?_
  -- the reading of what is walked, then the loop
  have key : ∀ J H1, (∃ F1 M1 xs, Stp X.K H0 F0 M H1 F1 M1 ∧ Walks X.K J H1 F1 M1 xs ∧ ForT X tg body E xs ρ M1) →
      ∃ W : Nat → Nat → SS → Hp → Prop, (∃ m, W 0 m σ0 H1) ∧ ∀ i m σ H, W i m σ H →
        (J.stop i H ∧ (E.ends X H0 F0 M).nx σ H) ∨ (J.go i H ∧ ∃ N : SS → Hp → Prop, (∀ σ' H', N σ' H' → ∃ m', m' < m ∧ W (i + 1) m' σ' H') ∧ ∀ x H', J.yld i H x H' → lTG X tg x σ H' fun σ2 H2 => lTS X body { (E.ends X H0 F0 M) with nx := N, ct := N, bk := (E.ends X H0 F0 M).nx } σ2 H2) := by
    intro J H1 ⟨F1, M1, xs, t1, wk, ft⟩
    let St : Nat → SS → Hp → Prop := fun i σ H => ∃ F M' ρ', Stp X.K H1 F1 M1 H F M' ∧ Sim X.K H F M' σ ρ' ∧ ForT X tg body E (xs.drop i) ρ' M'
    refine ⟨fun i m σ H => m = xs.length - i ∧ i ≤ xs.length ∧ St i σ H, ⟨xs.length, by simp, Nat.zero_le _, F1, M1, ρ, Stp.refl t1.good, S0.step t1, ft⟩, ?_⟩
    rintro i m σ H ⟨rfl, hi, F, M', ρ', t2, S2, f2⟩
    by_cases hlt : i < xs.length
    · obtain ⟨hgo, hy⟩ := (wk i H F M' t2).1 hlt
      refine .inr ⟨hgo, St (i + 1), fun σ' H' p => ⟨_, by omega, rfl, hlt, p⟩, fun x H' y => ?_⟩
      obtain ⟨F3, d, hd, t3, rp⟩ := hy x H' y
      have ed : xs.drop i = d :: xs.drop (i + 1) := by
        rw [List.drop_eq_getElem_cons hlt]
        have := List.getElem?_eq_getElem hlt
        rw [hd] at this
        rw [Option.some.inj this]
      rw [ed] at f2
      refine ⟨F3, M', ρ', d, _, S2.step t3, rp, f2, fun σ4 H4 ⟨F4, M4, ρ4, t4, S4, w4⟩ => ⟨F4, M4, ρ4, _, S4, w4, fun σ5 H5 ⟨F5, M5, ρ5, t5, S5, q5⟩ => ?_, fun v5 H5 q5 => ?_, fun σ5 H5 q5 => ?_, fun σ5 H5 ⟨F5, M5, ρ5, t5, S5, q5⟩ => ?_⟩⟩
      · exact ⟨F5, M5, ρ5, ((t2.trans t3).trans t4).trans t5, S5, q5⟩
      · exact q5.back (((t1.trans t2).trans t3).trans t4)
      · exact q5.back (((t1.trans t2).trans t3).trans t4)
      · exact ⟨F5, M5, ρ5, ((t2.trans t3).trans t4).trans t5, S5, q5⟩
    · have e : i = xs.length := by omega
      subst e
      rw [List.drop_length] at f2
      obtain ⟨ρt, l, q⟩ := f2
      exact .inl ⟨(wk _ H F M' t2).2 rfl, F, M', ρt, t1.trans t2, S2.le l, q⟩
  exact h σ0 H0 F0 S0 _ fun J H1 F1 M1 xs t w q => key J H1 ⟨F1, M1, xs, t, w, q⟩
end
end TL
end
section
set_option maxRecDepth 100000
/-! TE: enumerate and zip over lists, tuples, texts in any mix; texts sign by sign. -/
namespace TL
open PySem PySem.Spec PyProof.Rows L2

/-- what an iterator draws from -/
inductive Sk where
  | lst (a : Addr) | tup (a : Addr) | str (x : Str)
def Sk.own : Sk → List Addr
  | .lst a => [a]
  | .tup a => [a]
  | .str _ => []
def Sk.obj (k : Sk) (t : Tok) : Obj := match k with
  | .lst a => { cls := .type "list_iterator", data := .fields #[.ref a, .int 0 0] }
  | .tup a => { cls := .type "tuple_iterator", data := .fields #[.ref a, .int 0 0] }
  | .str x => { cls := .type (strIterType x), data := .fields #[.str x t, .int 0 0] }
def Sk.val (k : Sk) (t : Tok) : Value := match k with
  | .lst a => .ref a
  | .tup a => .ref a
  | .str x => .str x t
/-- the iterator at it stands ahead of the i-th item -/
def Sk.At (k : Sk) (t : Tok) (it : Addr) (h : Heap) (i : Nat) : Prop := match k with
  | .lst a => h.IsListIter it a i
  | .tup a => h.IsTupleIter it a i
  | .str x => h.IsStrIter it (strIterType x) x t i
def strV (x : Str) : List V := x.cps.toList.map fun c => V.str ⟨#[c]⟩
def Sk.Is (K : PySem.W.Frag) (H : Hp) (vs : List V) : Sk → Prop
  | .lst a => SqL K H a vs
  | .tup a => SqT K H a vs
  | .str x => vs = strV x
theorem Sk.At.new (k : Sk) (t : Tok) {h : Heap} {it : Addr} (e : h.get? it = some (k.obj t)) : k.At t it h 0 := by
  cases k with
  | lst a => exact ⟨_, e, rfl, rfl⟩
  | tup a => exact ⟨_, e, rfl, rfl⟩
  | str x => exact ⟨_, e, rfl, rfl⟩
theorem Sk.At.obj {k : Sk} {t : Tok} {h : Heap} {it : Addr} {i : Nat} (x : k.At t it h i) : ∃ o, h.get? it = some o ∧ ∀ v, o.data ≠ .cell v := by
  cases k with
  | lst a => obtain ⟨o, e, _, d⟩ := x; exact ⟨o, e, fun v q => by rw [d] at q; cases q⟩
  | tup a => obtain ⟨o, e, _, d⟩ := x; exact ⟨o, e, fun v q => by rw [d] at q; cases q⟩
  | str y => obtain ⟨o, e, _, d⟩ := x; exact ⟨o, e, fun v q => by rw [d] at q; cases q⟩
theorem Sk.At.keep {k : Sk} {t : Tok} {h h' : Heap} {it : Addr} {i : Nat} (x : k.At t it h i) (q : ∀ o, h.get? it = some o → h'.get? it = some o) : k.At t it h' i := by
  cases k with
  | lst a => obtain ⟨o, e, r⟩ := x; exact ⟨o, q o e, r⟩
  | tup a => obtain ⟨o, e, r⟩ := x; exact ⟨o, q o e, r⟩
  | str y => obtain ⟨o, e, r⟩ := x; exact ⟨o, q o e, r⟩
theorem strV_len (x : Str) : (strV x).length = x.cps.size := by simp [strV]
section
variable {X : Cx} {pins : Pins} {σ : SS} {H : Hp} {s : Shared}
/-- the items as they stand now -/
theorem Sk.draws (I : Inv X pins σ H s) {k : Sk} {vs : List V} (h : k.Is X.K H vs) (t : Tok) (it : Addr) (hne : ∀ a ∈ k.own, a ≠ it) :
    ∃ (P : Nat → Value → Prop) (St : Nat → Heap → Prop), (∀ A : Around, A.handled = none → Draws X.prog X.w A it (it :: k.own) vs.length P St) ∧ (∀ i, k.At t it s.heap i → St i s.heap) ∧
      (∀ i h, St i h → k.At t it h i) ∧ ∀ i u, P i u → ∃ x, vs[i]? = some x ∧ RelV x u := by
  cases k with
  | lst a =>
    obtain ⟨its, rv, p, _⟩ := I.list h
    refine ⟨fun i v => its.toArray[i]? = some v, fun i h => h.IsListIter it a i ∧ h.IsList a its.toArray, fun A hA => ?_, fun i q => ⟨q, p.isList⟩, fun i h q => q.1, fun i u q => ?_⟩
    · have d := Draws.list (prog := X.prog) (w := X.w) hA it a (hne a (by simp [Sk.own])) its.toArray
      rw [show its.toArray.size = vs.length by simp [rv.length]] at d
      exact d
    · have q : its.toArray[i]? = some u := q
      have hu : its[i]? = some u := by simpa using q
      cases e : vs[i]? with
      | none => rw [rv.none_of e] at hu; cases hu
      | some x =>
        obtain ⟨u', e', r⟩ := rv.get e
        rw [hu] at e'; cases e'
        exact ⟨x, rfl, r⟩
  | tup a =>
    obtain ⟨its, rv, p, _⟩ := I.tuple h
    have p' : s.heap.IsTuple a its.toArray := p
    refine ⟨fun i v => its.toArray[i]? = some v, fun i h => h.IsTupleIter it a i ∧ h.IsTuple a its.toArray, fun A hA => ?_, fun i q => ⟨q, p'⟩, fun i h q => q.1, fun i u q => ?_⟩
    · have d := Draws.tuple (prog := X.prog) (w := X.w) hA it a (hne a (by simp [Sk.own])) its.toArray
      rw [show its.toArray.size = vs.length by simp [rv.length]] at d
      exact d
    · have q : its.toArray[i]? = some u := q
      have hu : its[i]? = some u := by simpa using q
      cases e : vs[i]? with
      | none => rw [rv.none_of e] at hu; cases hu
      | some x =>
        obtain ⟨u', e', r⟩ := rv.get e
        rw [hu] at e'; cases e'
        exact ⟨x, rfl, r⟩
  | str x =>
    have e : vs = strV x := h
    subst e
    refine ⟨fun i v => ∃ c u, x.cps[i]? = some c ∧ v = .str ⟨#[c]⟩ u, fun i h => h.IsStrIter it (strIterType x) x t i, fun A hA => ?_, fun i q => q, fun i h q => q, fun i u q => ?_⟩
    · rw [strV_len]
      exact Draws.text hA it x t
    · obtain ⟨c, u', hc, rfl⟩ := q
      have hc' : x.cps.toList[i]? = some c := by simpa using hc
      exact ⟨.str ⟨#[c]⟩, by simp [strV, hc'], ⟨u', rfl⟩⟩
theorem Sk.lt (I : Inv X pins σ H s) {k : Sk} {vs : List V} (h : k.Is X.K H vs) : ∀ a ∈ k.own, a < s.heap.objs.size := by
  intro a ha
  cases k with
  | lst b =>
    obtain rfl : a = b := by simpa [Sk.own] using ha
    obtain ⟨its, rv, ⟨o, n, e, _⟩, _⟩ := I.list h
    exact Heap.lt_size e
  | tup b =>
    obtain rfl : a = b := by simpa [Sk.own] using ha
    obtain ⟨its, rv, p, _⟩ := I.tuple h
    exact p.lt
  | str x => simp [Sk.own] at ha
theorem Sk.begins (I : Inv X pins σ H s) {k : Sk} {vs : List V} (h : k.Is X.K H vs) (t : Tok) : ∃ G : Heap → Prop, Begins (k.val t) (k.obj t) G ∧ G s.heap := by
  cases k with
  | lst a => obtain ⟨its, rv, p, _⟩ := I.list h; exact ⟨_, begins_list a its.toArray, p.isList⟩
  | tup a => obtain ⟨its, rv, p, _⟩ := I.tuple h; exact ⟨_, begins_tuple a its.toArray, p⟩
  | str x => exact ⟨_, begins_text x t, trivial⟩
end
/-! ### enumerate(v) begins, v of any sort -/
set_option maxHeartbeats 1000000 in
theorem enum1_meets {v : Value} {o : Obj} {G : Heap → Prop} (B : Begins v o G) : Meets (Builtin.«enumerate.__new__» ⟨[.type "enumerate", v], []⟩)
    (fun _ R z => G z.heap ∧ R (.ok (.ret (.ref (z.heap.push o).objs.size)))
      { z with heap := (z.heap.push o).push { cls := .type "enumerate", data := .fields #[.none, .bool false, .ref z.heap.objs.size, rawInt 0, .none, .none] } }) :=
  .of_wp fun P w A R z hz => by
    obtain ⟨hp, gs, dr, tk, os⟩ := z
    obtain ⟨g1, hR⟩ := hz
    have sub := sub_enumerate
    have first : ∀ {A' : Around} {E' : Value → Shared → Prop} {Q' : Value → Shared → Prop}, Q' (.ref hp.objs.size) ⟨hp.push o, gs, dr, tk, os⟩ → wpAny (model P w) A' (pyIter v) Q' E' ⟨hp, gs, dr, tk, os⟩ := fun q => B.iter P w _ _ _ _ g1 q
    wp_walk using first
    refine wpAny_stack_any fun st => wpAny_pure ?_
    split
    · rename_i cc _ _ _ _ _
      cases (cc == Value.type "enumerate") <;> (wp_walk using first; exact ⟨_, rfl, hR⟩)
    · wp_walk using first
      exact ⟨_, rfl, hR⟩
theorem enum1_begins {P : Program} {w : World} {A : Around} {E : Value → Shared → Prop} {s : Shared} {v : Value} {o : Obj} {G : Heap → Prop} {Q : Value → Shared → Prop} (B : Begins v o G) (g : G s.heap)
    (h : ∀ h', IsEnum h' (s.heap.objs.size + 1) s.heap.objs.size 0 .none → h'.get? s.heap.objs.size = some o → (∀ b u, s.heap.get? b = some u → h'.get? b = some u) → Q (.ref (s.heap.objs.size + 1)) { s with heap := h' }) :
    wpAny (model P w) A (call (.type "enumerate") [v]) Q E s := by
  refine callType_new F.called_enumerate (by decide) (F.typeCall_enumerate_1 _) (F.newCall_enumerate_1 _) (fun _ => F.args_object_init_2 _ _) F.entry_enumerate_new (enum1_meets B) ⟨g, ?_⟩
  have z1 : (s.heap.push o).objs.size = s.heap.objs.size + 1 := Heap.size_push _ _
  show _ ∧ _
  rw [z1]
  have he : ((s.heap.push o).push { cls := .type "enumerate", data := .fields #[.none, .bool false, .ref s.heap.objs.size, rawInt 0, .none, .none] }).get? (s.heap.objs.size + 1) = some { cls := .type "enumerate", data := .fields #[.none, .bool false, .ref s.heap.objs.size, rawInt 0, .none, .none] } := by
    rw [← z1]
    exact Heap.get?_push_size _ rfl
  exact ⟨⟨_, he, rfl⟩, h _ he (Heap.get?_push_of_some _ (Heap.get?_push_size _ B.free)) fun b u e => Heap.get?_push_of_some _ (Heap.get?_push_of_some _ e)⟩


/-- new tuples of a row each, n of them -/
def Itw (ok : Hp → Prop) (n : Nat) (row : Nat → List V → Prop) : It :=
  ⟨fun i H => ok H ∧ i < n, fun i H v H' => ∃ T xs, v = .ref T ∧ H T = none ∧ H' = upd H T (.tup xs) ∧ row i xs, fun i H => ok H ∧ i = n⟩
theorem turn_wt {P : Program} {w : World} {K : PySem.W.Frag} {elts : List Expr} {kk : Nat} {tpos : Pos} {I0 : Addr} {fp wr : List Addr} {tn : Nat → Heap → Prop} {ok : Hp → Prop} {n : Nat} {row : Nat → List V → Prop}
    (mem : I0 ∈ fp) (sub : ∀ b ∈ wr, b ∈ fp) (obj : ∀ i h, tn i h → ∀ b ∈ fp, ∃ o, h.get? b = some o ∧ ∀ v, o.data ≠ .cell v)
    (keep : ∀ i h h', tn i h → (∀ b ∈ fp, ∀ o, h.get? b = some o → h'.get? b = some o) → tn i h') (short : ∀ i xs, row i xs → xs.length ≤ 1000)
    (self : ∀ (A : Around) (i : Nat) (s : Shared) (Q : Value → Shared → Prop) (E : Value → Shared → Prop), tn i s.heap → Q (.ref I0) s → wpAny (model P w) A (pyIter (.ref I0)) Q E s)
    (W : ∀ X : Cx, X.prog = P → X.w = w → X.K = K → X.calm = true → ∀ (i : Nat) (pins : Pins) (s : Shared) (σ : SS) (H : Hp), Inv X pins σ H s → (∀ b ∈ fp, FpOk X pins H b) → ok H → tn i s.heap →
      ∃ FP Pt St Mid, WalksT P w X.A I0 FP wr n Pt St Mid ∧ St i s.heap ∧ (∀ j h, St j h → tn j h) ∧ ∀ j vals, Pt j vals → ∃ vs, row j vs ∧ Vals vs vals.toList) :
    Turn P w K (.Tuple elts kk tpos) (Itw ok n row) fp I0 tn where
  mem := mem
  obj := obj
  keep := keep
  item := by
    intro X hP hw hK hc i pins s σ H E I hf st hg
    obtain ⟨hok, hi⟩ := hg
    obtain ⟨FP, Pt, St, Mid, G, h1, h2, h3⟩ := W X hP hw hK hc i pins s σ H I hf hok st
    subst hP hw hK
    refine G.item i s _ E hi h1 fun T vals h' tk hp hle hT hm hk => ⟨.ref T, rfl, ?_⟩
    refine G.go elts kk tpos i T { s with heap := h', toks := tk } _ E hm fun h2' st2 hk2 => ?_
    obtain ⟨vs, hv, rv⟩ := h3 i vals hp
    have hTw := G.apart i T h' hm
    have kk2 : ∀ b o, b ∉ wr → s.heap.get? b = some o → h2'.get? b = some o := fun b o hb e => hk2 b o hb (hk b o hb e)
    have old : ∀ b ∈ fp, b < s.heap.objs.size := fun b hb => by obtain ⟨o, e, _⟩ := obj i _ st b hb; exact Heap.lt_size e
    have new : ObjOk X.prog X.w (upd H T (.tup vs)) h2' T (.tup vs) := ⟨Nat.le_of_lt (small1000 (short i vs hv)), vals.toList, rv, by
      have q : h2'.IsTuple T vals := hT.at fun o e => hk2 T o hTw e
      rw [Array.toArray_toList]
      exact q⟩
    have I1 := I.turnedNew (t' := tk) (h' := h2') (ch := wr) kk2 (fun b hb => hf b (sub b hb)) hle new
    refine ⟨.ref T, _, I1, rfl, ⟨T, vs, rfl, I.hok.fresh hle, rfl, hv⟩, h2 _ _ st2, fun b hb => ?_⟩
    rw [upd_ne (Nat.ne_of_lt (Nat.lt_of_lt_of_le (old b hb) hle))]
    exact (hf b hb).1
  done := by
    intro X hP hw hK hc i pins s σ H E I hf st hg
    obtain ⟨hok, hi⟩ := hg
    obtain ⟨FP, Pt, St, Mid, G, h1, h2, h3⟩ := W X hP hw hK hc i pins s σ H I hf hok st
    subst hP hw hK hi
    refine G.done s _ E h1 fun h' tk hk => ⟨rfl, ?_⟩
    refine I.step (t' := tk) (g' := s.gens) (d' := s.drawn) (ch := wr) (fun b hb => ?_) (fun b o _ _ hb e _ => hk b o hb e) (fun b o _ _ hb e _ => ⟨o.slots, hk b o hb e⟩) (fun b o _ _ e => e) (fun b o hb e => ⟨o, hk b o hb e⟩) (fun _ _ e => e) (fun _ _ _ e => e) (fun b ps e => ⟨#[], by rw [e]; simp⟩) (fun m hm => ?_) (fun b u e => ?_) I.bare
    · have f := hf b (sub b hb)
      exact ⟨f.2.2.2.1, f.2.1, f.2.2.2.2.1, f.2.2.2.2.2⟩
    · obtain ⟨o, es, ep, ho, r⟩ := hm
      exact ⟨o, es, ep, hk _ o (fun z => (hf _ (sub _ z)).2.1 rfl) ho, r⟩
    · have nw : ∀ c, c ∈ wr → H c = none := fun c hc => (hf c (sub c hc)).1
      refine (I.hok b u e).stay (fun c v hc q => hk c v (fun z => ?_) q) (fun _ q => q) fun _ _ q => q
      rcases hc with z' | z'
      · rw [z', ] at z; rw [nw b z] at e; cases e
      · rw [nw c z] at z'; cases z'
  self := self
def enRow (vs : List V) (i : Nat) (xs : List V) : Prop := ∃ x, vs[i]? = some x ∧ xs = [.int (i : Int), x]
theorem turn_en {P : Program} {w : World} {K : PySem.W.Frag} {elts : List Expr} {kk : Nat} {tpos : Pos} (k : Sk) (t : Tok) (vs : List V) (e it : Addr) (hne : e ≠ it) :
    Turn P w K (.Tuple elts kk tpos) (Itw (fun H => k.Is K H vs) vs.length (enRow vs)) [e, it] e (fun i h => ((∃ old, IsEnum h e it ((i : Nat) : Int) old) ∧ k.At t it h i) ∧ ∀ a ∈ k.own, a ≠ e ∧ a ≠ it) := by
  refine turn_wt (wr := [e, it]) (by simp) (fun _ h => h) (fun i h st b hb => ?_) (fun i h h' st q => ?_) (fun i xs hr => ?_) (fun A i s Q E st h => ?_) (fun X hP hw hK hc i pins s σ H I hf hok st => ?_)
  · obtain ⟨⟨⟨old, he⟩, hi⟩, _⟩ := st
    rcases (show b = e ∨ b = it by simpa using hb) with z | z
    · rw [z]; exact ⟨_, he, fun v q => nomatch q⟩
    · rw [z]; exact hi.obj
  · obtain ⟨⟨⟨old, he⟩, hi⟩, ho⟩ := st
    exact ⟨⟨⟨old, q e (by simp) _ he⟩, hi.keep fun o x => q it (by simp) o x⟩, ho⟩
  · obtain ⟨x, _, e⟩ := hr
    rw [e]; exact (by decide : 2 ≤ 1000)
  · obtain ⟨⟨⟨_, he⟩, _⟩, _⟩ := st
    exact wpAny_pyIter_enum he h
  · subst hP hw hK
    obtain ⟨⟨⟨old, he⟩, hi⟩, ho⟩ := st
    obtain ⟨PP, St, hD, h1, h2, h3⟩ := Sk.draws I hok t it fun a ha => (ho a ha).2
    refine ⟨_, _, _, _, WalksT.enumFrom 0 (hD X.A.in1 (I.ok.hd hc)) e hne (fun z => ?_) (by simp), ⟨⟨old, by simpa using he⟩, h1 i hi⟩, fun j h q => ⟨⟨⟨_, by simpa using q.1.choose_spec⟩, h2 j h q.2⟩, ho⟩, fun j vals q => ?_⟩
    · rcases List.mem_cons.mp z with z | z
      · exact hne z
      · exact (ho e z).1 rfl
    · obtain ⟨tt, x, hx, ev⟩ := q
      obtain ⟨xv, hv, rx⟩ := h3 j x hx
      refine ⟨_, ⟨xv, hv, rfl⟩, ?_⟩
      rw [ev]
      exact .cons ⟨tt, by simp⟩ (.cons rx .nil)
def zpRow (vs us : List V) (i : Nat) (xs : List V) : Prop := ∃ x y, vs[i]? = some x ∧ us[i]? = some y ∧ xs = [x, y]
theorem turn_zp {P : Program} {w : World} {K : PySem.W.Frag} {elts : List Expr} {kk : Nat} {tpos : Pos} (k1 k2 : Sk) (t1 t2 : Tok) (vs us : List V) (N : Nat) (h1 : ∀ a ∈ k1.own, a < N) (h2 : ∀ a ∈ k2.own, a < N) :
    Turn P w K (.Tuple elts kk tpos) (Itw (fun H => k1.Is K H vs ∧ k2.Is K H us) (min vs.length us.length) (zpRow vs us)) [N + 4, N + 2, N + 3, N, N + 1] (N + 4)
      (fun i h => IsZip h (N + 4) (N + 2) (N + 3) .none ∧ IsTupOf2 h (N + 2) (.ref N) (.ref (N + 1 : Nat)) ∧ (∃ a1 a2, IsTupOf2 h (N + 3) a1 a2) ∧ k1.At t1 N h i ∧ k2.At t2 (N + 1) h i) := by
  have S := zip_sep2 h1 h2
  refine turn_wt (wr := [N + 4, N + 3, N, N + 1]) (by simp) (fun b hb => ?_) (fun i h st b hb => ?_) (fun i h h' st q => ?_) (fun i xs hr => ?_) (fun A i s Q E st h => ?_) (fun X hP hw hK hc i pins s σ H I hf hok st => ?_)
  · rcases (show b = N + 4 ∨ b = N + 3 ∨ b = N ∨ b = N + 1 by simpa using hb) with z | z | z | z <;> simp [z]
  · obtain ⟨hz, hT, ⟨a1, a2, hO⟩, i1, i2⟩ := st
    rcases (show b = N + 4 ∨ b = N + 2 ∨ b = N + 3 ∨ b = N ∨ b = N + 1 by simpa using hb) with z | z | z | z | z
    · rw [z]; exact ⟨_, hz, fun v q => nomatch q⟩
    · rw [z]; exact ⟨_, hT, fun v q => nomatch q⟩
    · rw [z]; exact ⟨_, hO, fun v q => nomatch q⟩
    · rw [z]; exact i1.obj
    · rw [z]; exact i2.obj
  · obtain ⟨hz, hT, ⟨a1, a2, hO⟩, i1, i2⟩ := st
    exact ⟨q _ (by simp) _ hz, q _ (by simp) _ hT, ⟨a1, a2, q _ (by simp) _ hO⟩, i1.keep fun o x => q _ (by simp) o x, i2.keep fun o x => q _ (by simp) o x⟩
  · obtain ⟨x, y, _, _, e⟩ := hr
    rw [e]; exact (by decide : 2 ≤ 1000)
  · exact wpAny_pyIter_zip st.1 h
  · subst hP hw hK
    obtain ⟨hz, hT, hO, i1, i2⟩ := st
    obtain ⟨P1, St1, hD1, a1, b1, c1⟩ := Sk.draws I hok.1 t1 N fun a ha => Nat.ne_of_lt (h1 a ha)
    obtain ⟨P2, St2, hD2, a2, b2, c2⟩ := Sk.draws I hok.2 t2 (N + 1 : Nat) fun a ha => Nat.ne_of_lt (Nat.lt_succ_of_lt (h2 a ha))
    refine ⟨_, _, _, _, WalksT.zipD2 S (hD1 X.A.in1 (I.ok.hd hc)) (hD2 X.A.in1 (I.ok.hd hc)), ⟨hz, hT, hO, a1 i i1, a2 i i2⟩, fun j h q => ⟨q.1, q.2.1, q.2.2.1, b1 j h q.2.2.2.1, b2 j h q.2.2.2.2⟩, fun j vals q => ?_⟩
    obtain ⟨x, y, hx, hy, ev⟩ := q
    obtain ⟨xv, hv, rx⟩ := c1 j x hx
    obtain ⟨yv, hw, ry⟩ := c2 j y hy
    refine ⟨_, ⟨xv, yv, hv, hw, rfl⟩, ?_⟩
    rw [ev]
    exact .cons rx (.cons ry .nil)
/-! ### over trees -/
section
variable {X : Cx} {M : Mp} {ρ : En} {R : List D → Mp → Prop} {elts : List Expr} {kk : Nat} {p pos tpos : Pos} {tg e e2 : Expr}
/-- the items of a list, a tuple, a text -/
def seqD : D → Option (List D)
  | .lst xs => some xs
  | .tup xs => some xs
  | .str x => some (x.map fun c => .str [c])
  | _ => none
theorem reps_str {K : PySem.W.Frag} {F : Hp} : ∀ x : List Nat, Reps K F (x.map fun c => V.str ⟨#[c]⟩) (x.map fun c => D.str [c])
  | [] => .nil
  | c :: x => .cons (.str [c]) (reps_str x)
theorem sk_of {K : PySem.W.Frag} {F : Hp} {v : V} {u : Value} {d : D} {xs : List D} (r : Rep K F v d) (ru : RelV v u) (h : seqD d = some xs) : ∃ k t vs, u = Sk.val k t ∧ k.Is K F vs ∧ Reps K F vs xs := by
  cases r with
  | lst hs hr =>
    cases h; cases ru
    exact ⟨.lst _, 0, _, rfl, .inl hs, hr⟩
  | tup hs hr =>
    cases h; cases ru
    exact ⟨.tup _, 0, _, rfl, hs, hr⟩
  | str x =>
    cases h
    obtain ⟨t, rfl⟩ := ru
    exact ⟨.str ⟨x.toArray⟩, t, _, rfl, rfl, by simpa [strV] using reps_str x⟩
  | _ => cases h
theorem Sk.Is.mono {K : PySem.W.Frag} {H H' : Hp} (s : Sub H H') {k : Sk} {vs : List V} (h : k.Is K H vs) : k.Is K H' vs := by
  cases k with
  | lst a => exact s.sqL h
  | tup a => exact s.sqT h
  | str x => exact h
def enD (xs : List D) : List D := (List.range xs.length).map fun (i : Nat) => D.tup [.int (i : Int), xs.getD i .non]
theorem enD_len (xs : List D) : (enD xs).length = xs.length := by simp [enD]
theorem enD_get {xs : List D} {i : Nat} {d : D} (h : xs[i]? = some d) : (enD xs)[i]? = some (.tup [.int (i : Int), d]) := by
  have hi : i < xs.length := (List.getElem?_eq_some_iff.mp h).1
  rw [List.getElem?_eq_getElem hi] at h
  simp [enD, hi, Option.some.inj h]
theorem Walks.en {K : PySem.W.Frag} {H F : Hp} {M : Mp} {k : Sk} {vs : List V} {xs : List D} (h : k.Is K F vs) (r : Reps K F vs xs) : Walks K (Itw (fun H => k.Is K H vs) vs.length (enRow vs)) H F M (enD xs) := by
  intro i H1 F1 M1 t
  have el := r.length
  have q : k.Is K H1 vs := h.mono (t.sub.trans t.good.sub)
  rw [enD_len]
  refine ⟨fun hi => ⟨⟨q, by omega⟩, fun x H2 hy => ?_⟩, fun hi => ⟨q, by omega⟩⟩
  obtain ⟨T, ys, rfl, hT, rfl, y, hy, rfl⟩ := hy
  obtain ⟨d, hd, rd⟩ := r.get' hy
  have t2 := Stp.new (o := .tup [.int (i : Int), y]) t.good hT
  exact ⟨_, _, enD_get hd, t2, .tup (.of upd_same) (.cons (.int _) (.cons ((t.trans t2).rep rd) .nil))⟩
def zpD (xs ys : List D) : List D := List.zipWith (fun a b => D.tup [a, b]) xs ys
theorem zpD_len (xs ys : List D) : (zpD xs ys).length = min xs.length ys.length := by simp [zpD]
theorem zpD_get {xs ys : List D} {i : Nat} {a b : D} (h : xs[i]? = some a) (h' : ys[i]? = some b) : (zpD xs ys)[i]? = some (.tup [a, b]) := by
  simp [zpD, List.getElem?_zipWith, h, h']
theorem Walks.zp {K : PySem.W.Frag} {H F : Hp} {M : Mp} {k1 k2 : Sk} {vs us : List V} {xs ys : List D} (h1 : k1.Is K F vs) (h2 : k2.Is K F us) (r1 : Reps K F vs xs) (r2 : Reps K F us ys) :
    Walks K (Itw (fun H => k1.Is K H vs ∧ k2.Is K H us) (min vs.length us.length) (zpRow vs us)) H F M (zpD xs ys) := by
  intro i H1 F1 M1 t
  have el := r1.length
  have el2 := r2.length
  have q := h1.mono (t.sub.trans t.good.sub)
  have q2 := h2.mono (t.sub.trans t.good.sub)
  rw [zpD_len]
  refine ⟨fun hi => ⟨⟨⟨q, q2⟩, by omega⟩, fun x H2 hy => ?_⟩, fun hi => ⟨⟨q, q2⟩, by omega⟩⟩
  obtain ⟨T, zs, rfl, hT, rfl, y, z, hy, hz, rfl⟩ := hy
  obtain ⟨d, hd, rd⟩ := r1.get' hy
  obtain ⟨c, hc, rc⟩ := r2.get' hz
  have t2 := Stp.new (o := .tup [y, z]) t.good hT
  exact ⟨_, _, zpD_get hd hc, t2, .tup (.of upd_same) (.cons ((t.trans t2).rep rd) (.cons ((t.trans t2).rep rc) .nil))⟩
/-- how an iterator over trees comes, and what it walks -/
structure WI2 (X : Cx) (tg iter : Expr) (ρ : En) (M : Mp) (R : List D → Mp → Prop) : Prop where
  run : ∀ (pins : Pins) (s : Shared) (σ : SS) (H F : Hp), Inv X pins σ H s → Sim X.K H F M σ ρ → wpAny (model X.prog X.w) X.A (eval iter X.env) (fun v s1 => wpAny (model X.prog X.w) X.A (pyIter v)
    (PIE X pins σ tg fun J H1 => ∃ F1 M1 xs, Stp X.K H F M H1 F1 M1 ∧ Walks X.K J H1 F1 M1 xs ∧ R xs M1) X.xe s1) X.xe s
theorem WI2.wi (h : WI2 X tg e ρ M R) : WI X tg e ρ M R := by
  refine ⟨fun σ H R' => ∃ F, Sim X.K H F M σ ρ ∧ ∀ J H1, (∃ F1 M1 xs, Stp X.K H F M H1 F1 M1 ∧ Walks X.K J H1 F1 M1 xs ∧ R xs M1) → R' J H1, ⟨fun pins s σ H R' I ⟨F, S, hR⟩ => ?_⟩, fun σ H F S R' hR => ⟨F, S, fun J H1 ⟨F1, M1, xs, t, w, q⟩ => hR J H1 F1 M1 xs t w q⟩⟩
  refine thn (h.run pins s σ H F I S) fun v s1 h1 => thn h1 fun itv s2 h2 => ?_
  obtain ⟨it, fp, tn, J, H', e1, I1, T, t0, f, q⟩ := h2
  exact ⟨it, fp, tn, J, H', e1, I1, T, t0, f, hR _ _ q⟩
theorem WI.enum (hm : X.mg "enumerate" = none) (h : WE X e ρ M fun d M1 => ∃ xs, seqD d = some xs ∧ R (enD xs) M1) (hg : Gl X "enumerate" := by rfl) (hs : starEach [e] X.env = [(false, eval e X.env)] := by rfl) :
    WI X (.Tuple elts kk tpos) (.Call (.Name "enumerate" p) [e] [] pos) ρ M R := by
  refine WI2.wi ⟨fun pins s σ H F I S => ?_⟩
  have ha := (pa_cons (lTE_ok (X := X) (e := e)) pa_nil (by rw [hs]; rfl)).run pos pins s σ H (fun vs H1 => ∃ v, vs = [v] ∧ REnd X H F M (fun d M1 => ∃ xs, seqD d = some xs ∧ R (enD xs) M1) v H1) I ⟨F, M, ρ, _, S, h, fun v H1 q => ⟨v, rfl, q⟩⟩
  refine Call_ (ld_blt I hg hm boot_enumerate (PyProof.Rows.callWith_type1 (thn ha fun us s1 ⟨vs, H1, I1, r1, q1⟩ => ?_) hs rfl))
  obtain ⟨v, rfl, F1, M1, d, t1, rp, xs, hd, q⟩ := q1
  cases r1 with
  | cons r rr =>
    cases rr
    obtain ⟨k, t, vs, rfl, his, hr⟩ := sk_of rp r hd
    have isH := his.mono t1.good.sub
    obtain ⟨G, B, g⟩ := Sk.begins I1 isH t
    have hlt := Sk.lt I1 isH
    refine enum1_begins B g fun h' he hit hk => wpAny_pyIter_enum he ?_
    have I2 : Inv X pins σ H1 { s1 with heap := h' } := I1.kept (t' := s1.toks) hk
    refine ⟨s1.heap.objs.size + 1, [s1.heap.objs.size + 1, s1.heap.objs.size], _, _, H1, rfl, I2, turn_en k t vs (s1.heap.objs.size + 1) s1.heap.objs.size (Nat.succ_ne_self _), ⟨⟨⟨.none, he⟩, .new k t hit⟩, fun a ha => ?_⟩, fun b hb => ?_, F1, M1, _, t1, Walks.en his hr, q⟩
    · have := hlt a ha
      exact ⟨Nat.ne_of_lt (Nat.lt_succ_of_lt this), Nat.ne_of_lt this⟩
    · have hle : s1.heap.objs.size ≤ b := by
        rcases (show b = s1.heap.objs.size + 1 ∨ b = s1.heap.objs.size by simpa using hb) with z | z
        · rw [z]; exact Nat.le_add_right _ _
        · rw [z]; exact Nat.le_refl _
      exact I1.fpOk hle (I1.hok.fresh hle)
/-- zip(a, b) -/
theorem WI.zip (hm : X.mg "zip" = none) (h : WA X [e, e2] ρ M fun ds M1 => ∃ a b xs ys, ds = [a, b] ∧ seqD a = some xs ∧ seqD b = some ys ∧ R (zpD xs ys) M1) (hg : Gl X "zip" := by rfl)
    (hs : starEach [e, e2] X.env = (false, eval e X.env) :: starEach [e2] X.env := by rfl) (hpl : (backTo pos (starEach [e2] X.env)).any (·.1) = false := by rfl) :
    WI X (.Tuple elts kk tpos) (.Call (.Name "zip" p) [e, e2] [] pos) ρ M R := by
  refine WI2.wi ⟨fun pins s σ H F I S => ?_⟩
  refine Call_ (ld_blt I hg hm (by decide +kernel : bootBuiltins "zip" = some (.type "zip")) (PyProof.Rows.callWith_type1 (thn (h.run pos pins s σ H F I S) fun us s1 ⟨vs, H1, F1, M1, ds, I1, r1, t1, rp, a, b, xs, ys, ed, hxs, hys, q⟩ => ?_) hs hpl))
  subst ed
  cases rp with
  | cons p1 p2 =>
    cases p2 with
    | cons p2 p3 =>
      cases p3
      cases r1 with
      | cons r1 r2 =>
        cases r2 with
        | cons r2 r3 =>
          cases r3
          obtain ⟨k1, t1', vs1, rfl, is1, hr1⟩ := sk_of p1 r1 hxs
          obtain ⟨k2, t2', vs2, rfl, is2, hr2⟩ := sk_of p2 r2 hys
          have isH1 := is1.mono t1.good.sub
          have isH2 := is2.mono t1.good.sub
          obtain ⟨G1, B1, g1⟩ := Sk.begins I1 isH1 t1'
          obtain ⟨G2, B2, g2⟩ := Sk.begins I1 isH2 t2'
          have lt1 := Sk.lt I1 isH1
          have lt2 := Sk.lt I1 isH2
          refine zip_begins2 B1 B2 g1 g2 fun h' hz hT hO hi1 hi2 hsz hk => wpAny_pyIter_zip hz ?_
          have I2 : Inv X pins σ H1 { s1 with heap := h' } := I1.kept (t' := s1.toks) hk
          refine ⟨s1.heap.objs.size + 4, _, _, _, H1, rfl, I2, turn_zp k1 k2 t1' t2' vs1 vs2 s1.heap.objs.size lt1 lt2, ⟨hz, hT, ⟨_, _, hO⟩, .new k1 t1' hi1, .new k2 t2' hi2⟩, fun b hb => ?_, F1, M1, _, t1, Walks.zp is1 is2 hr1 hr2, q⟩
          have hle : s1.heap.objs.size ≤ b := by
            rcases (show b = s1.heap.objs.size + 4 ∨ b = s1.heap.objs.size + 2 ∨ b = s1.heap.objs.size + 3 ∨ b = s1.heap.objs.size ∨ b = s1.heap.objs.size + 1 by simpa using hb) with z | z | z | z | z <;> (rw [z]; first | exact Nat.le_add_right _ _ | exact Nat.le_refl _)
          exact I1.fpOk hle (I1.hok.fresh hle)
/-- a text, sign by sign -/
theorem WI.str (h : WE X e ρ M fun d M1 => ∃ x, d = .str x ∧ R (x.map fun c => .str [c]) M1) : WI X tg e ρ M R := by
  refine ⟨_, pi_str lTE_ok, fun σ H F S R' hR => ⟨F, M, ρ, _, S, h, fun v H1 ⟨F1, M1, d, t, rp, x, ed, q⟩ => ?_⟩⟩
  subst ed
  cases rp
  refine ⟨_, rfl, hR _ H1 F1 M1 _ t (fun i H2 F2 M2 t2 => ?_) q⟩
  rw [List.length_map]
  refine ⟨fun hi => ⟨by simpa [Its] using hi, fun v H3 hy => ?_⟩, fun hi => by simp [Its, hi]⟩
  obtain ⟨e1, c, hc, e2⟩ := hy
  subst e1 e2
  have hc' : x[i]? = some c := by simpa using hc
  exact ⟨F2, .str [c], by simp [hc'], Stp.refl t2.good, .str [c]⟩
end
end TL
end
section
set_option maxRecDepth 100000
/-! TF: list comprehensions over tree values. -/
namespace TL
open PySem PySem.Spec PyProof.Rows L2
/-- the names of the block forgotten -/
def wipeE (ρ : En) : List Nat → En
  | [] => ρ
  | v :: vs => (wipeE ρ vs).set v none
theorem wipeE_length (ρ : En) : ∀ vs, (wipeE ρ vs).length = ρ.length
  | [] => rfl
  | v :: vs => by unfold wipeE; rw [List.length_set, wipeE_length ρ vs]
theorem wipeE_some {ρ : En} {i : Nat} {d : D} : ∀ {vs : List Nat}, (wipeE ρ vs)[i]? = some (some d) → ρ[i]? = some (some d) ∧ i ∉ vs
  | [], h => ⟨h, by simp⟩
  | v :: vs, h => by
    unfold wipeE at h
    by_cases hi : v = i
    · subst hi
      by_cases hv : v < (wipeE ρ vs).length
      · rw [List.getElem?_set_self hv] at h; cases h
      · rw [List.getElem?_eq_none (by simpa using hv)] at h; cases h
    · rw [List.getElem?_set_ne hi] at h
      obtain ⟨h1, h2⟩ := wipeE_some h
      exact ⟨h1, by simp only [List.mem_cons, not_or]; exact ⟨fun e => hi e.symm, h2⟩⟩
theorem wipe_keep {σ : SS} {i : Nat} : ∀ {vs : List Nat}, i ∉ vs → (wipe σ vs)[i]? = σ[i]?
  | [], _ => rfl
  | v :: vs, h => by
    unfold wipe
    rw [List.getElem?_set_ne (fun e => h (by simp [e]))]
    exact wipe_keep fun q => h (List.mem_cons_of_mem _ q)
theorem wipe_at {σ : SS} {i : Nat} : ∀ {vs : List Nat}, i ∈ vs → i < σ.length → (wipe σ vs)[i]? = some none
  | v :: vs, h, hl => by
    unfold wipe
    by_cases e : v = i
    · subst e
      exact List.getElem?_set_self (by rw [wipe_length]; exact hl)
    · rw [List.getElem?_set_ne e]
      exact wipe_at ((List.mem_cons.mp h).resolve_left fun q => e q.symm) hl
/-- forgetting twice, with a name of the block set between -/
theorem wipe_set {σ : SS} {i : Nat} {v : V} {vs : List Nat} (h : i ∈ vs) : wipe ((wipe σ vs).set i (some v)) vs = wipe σ vs := by
  apply List.ext_getElem?
  intro j
  by_cases hl : j < σ.length
  · by_cases hj : j ∈ vs
    · rw [wipe_at hj (by rw [List.length_set, wipe_length]; exact hl), wipe_at hj hl]
    · rw [wipe_keep hj, List.getElem?_set_ne (fun e : i = j => hj (by rw [← e]; exact h)), wipe_keep hj]
  · rw [List.getElem?_eq_none (by rw [wipe_length, List.length_set, wipe_length]; omega), List.getElem?_eq_none (by rw [wipe_length]; omega)]
theorem wipe_set2 {σ : SS} {i j : Nat} {v u : V} {vs : List Nat} (h : i ∈ vs) (h2 : j ∈ vs) : wipe (((wipe σ vs).set i (some v)).set j (some u)) vs = wipe σ vs := by
  apply List.ext_getElem?
  intro k
  by_cases hl : k < σ.length
  · by_cases hj : k ∈ vs
    · rw [wipe_at hj (by rw [List.length_set, List.length_set, wipe_length]; exact hl), wipe_at hj hl]
    · rw [wipe_keep hj, List.getElem?_set_ne (fun e : j = k => hj (by rw [← e]; exact h2)), List.getElem?_set_ne (fun e : i = k => hj (by rw [← e]; exact h)), wipe_keep hj]
  · rw [List.getElem?_eq_none (by rw [wipe_length, List.length_set, List.length_set, wipe_length]; omega), List.getElem?_eq_none (by rw [wipe_length]; omega)]
section
variable {K : PySem.W.Frag} {H F : Hp} {M : Mp} {σ : SS} {ρ : En}
theorem Sim.wipe (S : Sim K H F M σ ρ) (vs : List Nat) : Sim K H F M (L2.wipe σ vs) (wipeE ρ vs) := by
  refine ⟨S.good, fun i d h => ?_, by rw [wipe_length, wipeE_length]; exact S.len⟩
  obtain ⟨h1, h2⟩ := wipeE_some h
  obtain ⟨v, h3, r⟩ := S.slot i d h1
  exact ⟨v, by rw [wipe_keep h2]; exact h3, r⟩
end
/-- a comprehension's block -/
abbrev Blk (X : Cx) (scope : Scope) (s : Shared) (H : Hp) (C : Addr) (cl : List (Str × Addr)) (fp : List Addr) : Cx := X.blk s H scope (compEnvC scope cl C X.env) fp
/-- a clause's tests -/
structure WTs (X : Cx) (ifs : List Expr) (ρ : En) (M : Mp) (Q : Bool → Mp → Prop) : Prop where
  run : ∀ (pins : Pins) (s : Shared) (σ : SS) (H F : Hp), Inv X pins σ H s → Sim X.K H F M σ ρ →
    wpAny (model X.prog X.w) X.A (forIn ifs true fun c r => if r = true then do let ok ← isTrue c X.env (eval c X.env); pure (ForInStep.yield ok) else pure (ForInStep.yield r)) (BEnd X pins σ H F M Q) X.xe s
theorem WTs.nil {X : Cx} {ρ : En} {M : Mp} {Q : Bool → Mp → Prop} (h : Q true M) : WTs X [] ρ M Q := ⟨fun _ _ _ _ _ I S => wpAny_tests_nil (BEnd.of I S.good h)⟩
theorem WTs.one {X : Cx} {ρ : En} {M : Mp} {Q : Bool → Mp → Prop} {c : Expr} (h : WT X c ρ M Q) : WTs X [c] ρ M Q := ⟨fun pins s σ H F I S => wpAny_tests_one (h.run pins s σ H F I S)⟩

section
variable {X : Cx} {scope : Scope} {tg elt iter : Expr} {ifs : List Expr} {ρ : En} {M : Mp} {Q : DQ} {own : List (Str × Nat)} {pos : Pos}
/-- the loop of a list comprehension: what is left, the block's names, what is made, the heap -/
def CompT (X : Cx) (scope : Scope) (elt : Expr) (ifs : List Expr) (bind : D → Option En) (Q : DQ) : List D → List D → Mp → Prop
  | [], acc, M => Q (.lst acc) M
  | x :: xs, acc, M => acc.length < sizeLine ∧ ∃ ρ1, bind x = some ρ1 ∧ ∃ B : Bool → Mp → Prop, (∀ s H C cl fp, WTs (Blk X scope s H C cl fp) ifs ρ1 M B) ∧
    (∀ M1, B false M1 → CompT X scope elt ifs bind Q xs acc M1) ∧ (∀ M1, B true M1 → ∃ Y : D → Mp → Prop, (∀ s H C cl fp, WE (Blk X scope s H C cl fp) elt ρ1 M1 Y) ∧ ∀ y M2, Y y M2 → CompT X scope elt ifs bind Q xs (acc ++ [y]) M2)
/-- a target's reading that binds as bind does, and leaves the block's names alone -/
def BindOk (K : PySem.W.Frag) (g : TG) (vs : List Nat) (ρ : En) (bind : D → Option En) : Prop :=
  ∀ (v : V) (x : D) (σ : SS) (H F : Hp) (M : Mp) (ρ1 : En) (Q : SS → Hp → Prop), Sim K H F M (L2.wipe σ vs) (wipeE ρ vs) → Rep K F v x → bind x = some ρ1 →
    (∀ σ', Sim K H F M σ' ρ1 → L2.wipe σ' vs = L2.wipe σ vs → Q σ' H) → g v (L2.wipe σ vs) H Q
theorem bind_name {K : PySem.W.Frag} {i : Nat} {vs : List Nat} (h : i ∈ vs) : BindOk K (gName i) vs ρ fun x => some ((wipeE ρ vs).set i (some x)) := by
  intro v x σ H F M ρ1 Q S r e hq
  cases e
  exact hq _ (S.set i r) (wipe_set h)
theorem bind_two {K : PySem.W.Frag} {i j : Nat} {vs : List Nat} (h : i ∈ vs) (h2 : j ∈ vs) : BindOk K (gTup K 2 (gCons (gName i) (gCons (gName j) gNil))) vs ρ
    fun x => match x with
      | .tup [a, b] => some (((wipeE ρ vs).set i (some a)).set j (some b))
      | _ => none := by
  intro v x σ H F M ρ1 Q S r e hq
  dsimp only at e
  split at e
  · rename_i a b
    cases e
    cases r with
    | tup hs hr =>
      cases hr with
      | cons r1 hr =>
        cases hr with
        | cons r2 hr =>
          cases hr
          exact ⟨_, _, rfl, S.good.sub.sqT hs, rfl, _, _, rfl, _, _, rfl, rfl, hq _ ((S.set i r1).set j r2) (wipe_set2 h h2)⟩
  · cases e
/-- the readings of a list comprehension -/
theorem lc_reads {g : TG} {bind : D → Option En} (hb : BindOk X.K g (own.map (·.2)) ρ bind) (h : WI X tg iter ρ M fun xs M1 => CompT X scope elt ifs bind Q xs [] M1) :
    ∃ wi tt te, PI X tg iter wi ∧ (∀ (s : Shared) (H : Hp) (C : Addr) (cl : List (Str × Addr)) (fp : List Addr), PTs (Blk X scope s H C cl fp) ifs tt) ∧ (∀ (s : Shared) (H : Hp) (C : Addr) (cl : List (Str × Addr)) (fp : List Addr), PE (Blk X scope s H C cl fp) elt te) ∧
      ∀ (σ0 : SS) (H0 F0 : Hp) (R : VK), Sim X.K H0 F0 M σ0 ρ → (∀ v H' F' M' d, Stp X.K H0 F0 M H' F' M' → Rep X.K F' v d → Q d M' → R v H') → tLc wi g tt te (own.map (·.2)) σ0 H0 R := by
  obtain ⟨wi, hi, h⟩ := h
  -- readings of the tests and of the element, from words of every block
  let tt : TT := fun σ H R => ∃ F M ρ B, Sim X.K H F M σ ρ ∧ (∀ s H C cl fp, WTs (Blk X scope s H C cl fp) ifs ρ M B) ∧ ∀ b M1 H' F', Stp X.K H F M H' F' M1 → B b M1 → R b H'
  let te : TE := fun σ H R => ∃ F M ρ Y, Sim X.K H F M σ ρ ∧ (∀ s H C cl fp, WE (Blk X scope s H C cl fp) elt ρ M Y) ∧ ∀ v y M2 H' F', Stp X.K H F M H' F' M2 → Rep X.K F' v y → Y y M2 → R v H'
  have pt : ∀ (s : Shared) (H : Hp) (C : Addr) (cl : List (Str × Addr)) (fp : List Addr), PTs (Blk X scope s H C cl fp) ifs tt := fun s H C cl fp => ⟨fun pins s' σ H' R I ⟨F, M, ρ, B, S, w, q⟩ =>
    thn ((w s H C cl fp).run pins s' σ H' F I S) fun b' s2 ⟨H2, F2, M2, I2, t2, e⟩ => ⟨H2, I2, q _ _ H2 F2 t2 e⟩⟩
  have pe : ∀ (s : Shared) (H : Hp) (C : Addr) (cl : List (Str × Addr)) (fp : List Addr), PE (Blk X scope s H C cl fp) elt te := fun s H C cl fp => ⟨fun pins s' σ H' R I ⟨F, M, ρ, Y, S, w, q⟩ =>
    thn ((w s H C cl fp).run pins s' σ H' F I S) fun u s2 ⟨v, H2, F2, M3, d, I2, r2, t2, p2, e⟩ => ⟨v, H2, I2, r2, q v d M3 H2 F2 t2 p2 e⟩⟩
  refine ⟨wi, tt, te, hi, pt, pe, fun σ0 H0 F0 R0 S0 hR0 => ?_⟩
  refine h σ0 H0 F0 S0 _ fun J H1 F1 M1 xs t1 wk ct D hD => ?_
  have hDF : F1 D = none := t1.good.freeF hD
  have hDM : M1 D = none := t1.good.free hD
  -- behind i turns
  let St : Nat → Hp → Prop := fun i H => ∃ F M' acc vs, Stp X.K H1 F1 M1 H F M' ∧ F D = none ∧ M' D = none ∧ H D = some (.lst vs) ∧ Reps X.K F vs acc ∧ CompT X scope elt ifs bind Q (xs.drop i) acc M'
  have other : ∀ {H F : Hp} {M' : Mp} {o : HO}, Stp X.K H1 F1 M1 H F M' → F D = none → M' D = none → Stp X.K H1 F1 M1 (upd H D o) F M' := fun {H F M' o} t f m =>
    ⟨fun b u e n => by
      have hb : b ≠ D := ne_of_none e hD
      rw [upd_ne hb]; exact t.keep b u e n, t.sub, t.news, t.good.other f m⟩
  refine ⟨fun i m H => m = xs.length - i ∧ i ≤ xs.length ∧ St i H, ⟨xs.length, by simp, Nat.zero_le _, F1, M1, [], [], other (Stp.refl t1.good) hDF hDM, hDF, hDM, upd_same, .nil, ct⟩, ?_⟩
  rintro i m H ⟨rfl, hi, F, M', acc, vs, t2, f2, m2, hl, hr, c2⟩
  by_cases hlt : i < xs.length
  · obtain ⟨hgo, hy⟩ := (wk i H F M' t2).1 hlt
    refine .inr ⟨hgo, St (i + 1), fun H' p => ⟨_, by omega, rfl, hlt, p⟩, fun x H' y => ?_⟩
    obtain ⟨F3, d, hd, t3, rp⟩ := hy x H' y
    have ed : xs.drop i = d :: xs.drop (i + 1) := by
      rw [List.drop_eq_getElem_cons hlt]
      have := List.getElem?_eq_getElem hlt
      rw [hd] at this
      rw [Option.some.inj this]
    rw [ed] at c2
    obtain ⟨hz, ρ1, eb, B, w4, q4, q5⟩ := c2
    have keepD : ∀ {H F : Hp} {M' : Mp} {H' F' : Hp} {M'' : Mp} {u : HO}, Stp X.K H F M' H' F' M'' → F D = none → M' D = none → H D = some u → H' D = some u ∧ F' D = none ∧ M'' D = none := fun {H F M' H' F' M'' u} t f m e => by
      obtain ⟨k1, k2⟩ := t.keep D u e m
      refine ⟨k1, ?_, k2⟩
      cases q : F' D with
      | none => rfl
      | some o =>
        rcases t.news D o q with z | z | z
        · rw [f] at z; cases z
        · exact absurd m z
        · rw [e] at z; cases z
    obtain ⟨hl3, f3, m3⟩ := keepD t3 f2 m2 hl
    have S3 := ((S0.step t1).step (t2.trans t3)).wipe (own.map (·.2))
    refine hb x d σ0 H' F3 M' ρ1 _ S3 rp eb fun σ4 S4 ew => ⟨ew, F3, M', ρ1, B, S4, w4, fun b M4 H5 F5 t5 hB => ?_⟩
    obtain ⟨hl5, f5, m5⟩ := keepD t5 f3 m3 hl3
    cases b with
    | false =>
      rw [if_neg Bool.false_ne_true]
      exact ⟨F5, M4, acc, vs, (t2.trans t3).trans t5, f5, m5, hl5, (t3.trans t5).reps hr, q4 M4 hB⟩
    | true =>
      rw [if_pos rfl]
      obtain ⟨Y, w6, c6⟩ := q5 M4 hB
      refine ⟨F5, M4, ρ1, Y, S4.step t5, w6, fun v y M6 H7 F7 t7 r7 hY => ?_⟩
      obtain ⟨hl7, f7, m7⟩ := keepD t7 f5 m5 hl5
      refine ⟨vs, hl7, by rw [hr.length]; exact hz, F7, M6, acc ++ [y], vs ++ [v], other (((t2.trans t3).trans t5).trans t7) f7 m7, f7, m7, upd_same, (((t3.trans t5).trans t7).reps hr).append (.cons r7 .nil), c6 y M6 hY⟩
  · have e : i = xs.length := by omega
    subst e
    rw [List.drop_length] at c2
    refine .inl ⟨(wk _ H F M' t2).2 rfl, hR0 _ _ (upd F D (.lst vs)) M' _ ?_ (.lst (.of upd_same) (hr.mono (sub_upd f2))) c2⟩
    refine t1.trans ⟨t2.keep, t2.sub.trans (sub_upd f2), fun b o e => ?_, ⟨fun b o e => ?_, fun b m e => ?_, fun a m e => ?_⟩⟩
    · by_cases hb' : b = D
      · subst hb'; exact .inr (.inr hD)
      · rw [upd_ne hb'] at e; exact t2.news b o e
    · by_cases hb' : b = D
      · subst hb'; rw [upd_same] at e; rw [hl]; exact e
      · rw [upd_ne hb'] at e; exact t2.good.sub b o e
    · have hb' : b ≠ D := fun z => by rw [z, m2] at e; cases e
      rw [upd_ne hb']; exact t2.good.dis b m e
    · obtain ⟨o, ho, ro⟩ := t2.good.real a m e
      exact ⟨o, ho, ro.mono (sub_upd f2)⟩
theorem WE.lc {g : TG} {bind : D → Option En} (hc : X.calm = true) (hN : X.N.Nodup) (ok : BlkOk X.N X.env.scope scope own) (hb : BindOk X.K g (own.map (·.2)) ρ bind)
    (hg : ∀ (s : Shared) (H : Hp) (C : Addr) (cl : List (Str × Addr)) (fp : List Addr), PG (Blk X scope s H C cl fp) tg g)
    (h : WI X tg iter ρ M fun xs M1 => CompT X scope elt ifs bind Q xs [] M1) (hs : ∀ x, foldedSetIterable iter X.env x = pure x := by intro _; rfl) : WE X (.ListComp elt [⟨tg, iter, ifs, 0⟩] scope pos) ρ M Q := by
  obtain ⟨wi, tt, te, hi, pt, pe, q⟩ := lc_reads hb h
  exact .pe (pe_lc hc hN hi ok hg pt pe hs) fun σ H F S => q σ H F _ S fun v H' F' M' d t r q => ⟨F', M', d, t, r, q⟩
/-- n = [..] -/
theorem WS.setLc {g : TG} {bind : D → Option En} {E : TEs} {n : Str} {pos' spos : Pos} (i : Nat) (hc : X.calm = true) (hN : X.N.Nodup) (ok : BlkOk X.N X.env.scope scope own) (hb : BindOk X.K g (own.map (·.2)) ρ bind)
    (hg : ∀ (s : Shared) (H : Hp) (C : Addr) (cl : List (Str × Addr)) (fp : List Addr), PG (Blk X scope s H C cl fp) tg g)
    (h : WI X tg iter ρ M fun xs M1 => CompT X scope elt ifs bind (fun d M2 => E.nx (ρ.set i (some d)) M2) xs [] M1) (hi : X.N[i]? = some n := by rfl) (hl : X.env.scope.names.lookup n = some .local := by rfl)
    (hsw : swapsWith (.ListComp elt [⟨tg, iter, ifs, 0⟩] scope pos) (some (.Name n pos')) spos.line X.env = pure true := by rfl) (hs : ∀ x, foldedSetIterable iter X.env x = pure x := by intro _; rfl) :
    WS X (.Assign [.Name n pos'] (.ListComp elt [⟨tg, iter, ifs, 0⟩] scope pos) spos) ρ M E := by
  obtain ⟨wi, tt, te, hi', pt, pe, q⟩ := lc_reads hb h
  exact .ps (ps_setLc hc hN hi hl hsw hi' ok hg pt pe hs) fun σ H F S => q σ H F _ S fun v H' F' M' d t r q => ⟨F', M', _, t, (S.step t).set i r, q⟩
end
end TL
end
section
set_option maxRecDepth 100000
/-! TG: operations by values. -/
namespace TL
open PySem PySem.Spec PyProof.Rows L2

section
variable {X : Cx} {M : Mp} {Q : DQ} {i j : Int}
theorem VO.ii {f : Value → Value → Sem Value} {g : Int → Int → V} (p : OpR X f (rI0 g)) {d : D} (hd : ∀ F, Rep X.K F (g i j) d) (h : Q d M) : VO X f (.int i) (.int j) M Q :=
  .op p fun H F v1 v2 R r1 r2 => by cases r1; cases r2; exact ⟨i, j, rfl, rfl, F, M, d, Stp.refl R, hd F, h⟩
theorem VO.iiC {f : Value → Value → Sem Value} {C : Int → Int → Prop} {g : Int → Int → V} (p : OpR X f (rI C g)) {d : D} (hc : C i j) (hd : ∀ F, Rep X.K F (g i j) d) (h : Q d M) : VO X f (.int i) (.int j) M Q :=
  .op p fun H F v1 v2 R r1 r2 => by cases r1; cases r2; exact ⟨i, j, rfl, rfl, hc, F, M, d, Stp.refl R, hd F, h⟩
theorem VO.add (h : Q (.int (i + j)) M) : VO X (binaryOp .Add) (.int i) (.int j) M Q := .ii op_add (fun _ => .int _) h
theorem VO.sub (h : Q (.int (i - j)) M) : VO X (binaryOp .Sub) (.int i) (.int j) M Q := .ii op_sub (fun _ => .int _) h
theorem VO.mul (hc : CMul i j) (h : Q (.int (i * j)) M) : VO X (binaryOp .Mult) (.int i) (.int j) M Q := .iiC op_mul hc (fun _ => .int _) h
theorem VO.fdiv (h1 : 0 < j) (h2 : j < 1073741824) (h : Q (.int (i / j)) M) : VO X (binaryOp .FloorDiv) (.int i) (.int j) M Q := .iiC op_fdiv ⟨h1, h2⟩ (fun _ => .int _) h
theorem VO.mod (h1 : 0 < j) (h : Q (.int (i % j)) M) : VO X (binaryOp .Mod) (.int i) (.int j) M Q := .iiC op_mod h1 (fun _ => .int _) h
theorem VO.pow (hc : CPow i j) (h : Q (.int (i ^ j.toNat)) M) : VO X (binaryOp .Pow) (.int i) (.int j) M Q := .iiC op_pow hc (fun _ => .int _) h
theorem VO.lt (h : Q (.bl (decide (i < j))) M) : VO X (compareOp .Lt) (.int i) (.int j) M Q := .ii op_lt (fun _ => .bl _) h
theorem VO.le (h : Q (.bl (decide (i ≤ j))) M) : VO X (compareOp .LtE) (.int i) (.int j) M Q := .ii op_le (fun _ => .bl _) h
theorem VO.gt (h : Q (.bl (decide (j < i))) M) : VO X (compareOp .Gt) (.int i) (.int j) M Q := .ii op_gt (fun _ => .bl _) h
theorem VO.ge (h : Q (.bl (decide (j ≤ i))) M) : VO X (compareOp .GtE) (.int i) (.int j) M Q := .ii op_ge (fun _ => .bl _) h
theorem VO.eqI (h : Q (.bl (decide (i = j))) M) : VO X (compareOp .Eq) (.int i) (.int j) M Q :=
  .op op_eq fun H F v1 v2 R r1 r2 => by
    cases r1; cases r2
    refine ⟨rfl, F, M, _, Stp.refl R, .bl _, ?_⟩
    simpa using h
theorem VO.neI (h : Q (.bl (!decide (i = j))) M) : VO X (compareOp .NotEq) (.int i) (.int j) M Q :=
  .op op_ne fun H F v1 v2 R r1 r2 => by
    cases r1; cases r2
    refine ⟨rfl, F, M, _, Stp.refl R, .bl _, ?_⟩
    simpa using h
variable {x y : List Nat}
theorem VO.eqS (h : Q (.bl (decide (x = y))) M) : VO X (compareOp .Eq) (.str x) (.str y) M Q :=
  .op op_eq fun H F v1 v2 R r1 r2 => by
    cases r1; cases r2
    refine ⟨rfl, F, M, _, Stp.refl R, .bl _, ?_⟩
    simpa using h
theorem VO.neS (h : Q (.bl (!decide (x = y))) M) : VO X (compareOp .NotEq) (.str x) (.str y) M Q :=
  .op op_ne fun H F v1 v2 R r1 r2 => by
    cases r1; cases r2
    refine ⟨rfl, F, M, _, Stp.refl R, .bl _, ?_⟩
    simpa using h
theorem VO.neB {a b : Bool} (h : Q (.bl (!decide (a = b))) M) : VO X (compareOp .NotEq) (.bl a) (.bl b) M Q :=
  .op op_ne fun H F v1 v2 R r1 r2 => by
    cases r1; cases r2
    refine ⟨rfl, F, M, _, Stp.refl R, .bl _, ?_⟩
    simpa using h
theorem VO.eqB {a b : Bool} (h : Q (.bl (decide (a = b))) M) : VO X (compareOp .Eq) (.bl a) (.bl b) M Q :=
  .op op_eq fun H F v1 v2 R r1 r2 => by
    cases r1; cases r2
    refine ⟨rfl, F, M, _, Stp.refl R, .bl _, ?_⟩
    simpa using h
theorem VO.addS (hl : x.length + y.length ≤ sizeLine) (h : Q (.str (x ++ y)) M) : VO X (binaryOp .Add) (.str x) (.str y) M Q :=
  .op op_add_str fun H F v1 v2 R r1 r2 => by
    cases r1; cases r2
    refine ⟨_, _, rfl, rfl, by simpa [Str.length] using hl, F, M, _, Stp.refl R, ?_, h⟩
    have e : (⟨x.toArray⟩ : Str) ++ ⟨y.toArray⟩ = ⟨(x ++ y).toArray⟩ := by
      show Str.mk (x.toArray ++ y.toArray) = _
      simp
    rw [e]; exact .str _
/-- is None, is not None -/
def isNon : D → Bool
  | .non => true
  | _ => false
theorem rep_non {K : PySem.W.Frag} {F : Hp} {v : V} {d : D} (r : Rep K F v d) : decide (v = .non) = isNon d := by
  cases r <;> simp [isNon]
theorem VO.isN {x : D} (h : Q (.bl (isNon x)) M) : VO X (compareOp .Is) x .non M Q :=
  .op op_isN fun H F v1 v2 R r1 r2 => by
    cases r2
    refine ⟨rfl, F, M, _, Stp.refl R, .bl _, ?_⟩
    rw [rep_non r1]; exact h
theorem VO.notN {x : D} (h : Q (.bl (!isNon x)) M) : VO X (compareOp .IsNot) x .non M Q :=
  .op op_notN fun H F v1 v2 R r1 r2 => by
    cases r2
    refine ⟨rfl, F, M, _, Stp.refl R, .bl _, ?_⟩
    rw [rep_non r1]; exact h
theorem VO.notBl {a b : Bool} (h : Q (.bl (!decide (a = b))) M) : VO X (compareOp .IsNot) (.bl a) (.bl b) M Q :=
  .op op_isnot_bl fun H F v1 v2 R r1 r2 => by
    cases r1; cases r2
    exact ⟨a, b, rfl, rfl, F, M, _, Stp.refl R, .bl _, h⟩
theorem VO.isBl {a b : Bool} (h : Q (.bl (decide (a = b))) M) : VO X (compareOp .Is) (.bl a) (.bl b) M Q :=
  .op op_is_bl fun H F v1 v2 R r1 r2 => by
    cases r1; cases r2
    exact ⟨a, b, rfl, rfl, F, M, _, Stp.refl R, .bl _, h⟩
/-- a sign in a text -/
theorem VO.inSign {c : Nat} (h : Q (.bl (decide (c ∈ y))) M) : VO X (compareOp .In) (.str [c]) (.str y) M Q :=
  .op op_in_sign fun H F v1 v2 R r1 r2 => by
    cases r1; cases r2
    exact ⟨c, _, rfl, rfl, F, M, _, Stp.refl R, .bl _, by simpa using h⟩
theorem VO.notInSign {c : Nat} (h : Q (.bl (!decide (c ∈ y))) M) : VO X (compareOp .NotIn) (.str [c]) (.str y) M Q :=
  .op op_notIn_sign fun H F v1 v2 R r1 r2 => by
    cases r1; cases r2
    exact ⟨c, _, rfl, rfl, F, M, _, Stp.refl R, .bl _, by simpa using h⟩
end

/-! ### data: ==, in -/
mutual
def py : D → PyData
  | .non => .none
  | .bl b => .bool b
  | .int i => .int i
  | .str x => .str ⟨x.toArray⟩
  | .tup xs => .tuple (pys xs)
  | .lst xs => .list (pys xs)
  | .ty _ | .ref _ | .dic _ | .ins _ _ | .xn _ _ _ | .tun _ => .none
def pys : List D → List PyData
  | [] => []
  | d :: ds => py d :: pys ds
end
mutual
/-- none, bools, ints, texts, tuples and lists of them -/
def isPy : D → Bool
  | .non | .bl _ | .int _ | .str _ => true
  | .tup xs | .lst xs => arePy xs
  | .ty _ | .ref _ | .dic _ | .ins _ _ | .xn _ _ _ | .tun _ => false
def arePy : List D → Bool
  | [] => true
  | d :: ds => isPy d && arePy ds
end
theorem pys_map : ∀ ds : List D, pys ds = ds.map py
  | [] => rfl
  | d :: ds => by rw [List.map_cons, ← pys_map ds]; rfl
theorem arePy_all : ∀ ds : List D, arePy ds = ds.all isPy
  | [] => rfl
  | d :: ds => by rw [List.all_cons, ← arePy_all ds]; rfl
section
variable {K : PySem.W.Frag} {F : Hp}
mutual
theorem Rep.dp : ∀ {v : V} {d : D}, Rep K F v d → isPy d = true → Dp K F v (py d)
  | _, _, .non, _ => .non
  | _, _, .bl b, _ => .bl b
  | _, _, .int i, _ => .int i
  | _, _, .str x, _ => .str _
  | _, _, .ty _, h => by simp [isPy] at h
  | _, _, .ref _, h => by simp [isPy] at h
  | _, _, .tup s r, h => .tup s (Reps.dp r (by simpa [isPy] using h))
  | _, _, .lst s r, h => .lst (.inl s) (Reps.dp r (by simpa [isPy] using h))
  | _, _, .ins _ _, h => by simp [isPy] at h
  | _, _, .dic _ _, h => by simp [isPy] at h
  | _, _, .xn _ _, h => by simp [isPy] at h
  | _, _, .tun _ _ _ _, h => by simp [isPy] at h
theorem Reps.dp : ∀ {vs : List V} {ds : List D}, Reps K F vs ds → arePy ds = true → DpAll K F vs (pys ds)
  | _, _, .nil, _ => .nil
  | _, _, .cons a r, h => by
    simp only [arePy, Bool.and_eq_true] at h
    exact .cons (Rep.dp a h.1) (Reps.dp r h.2)
end
end
section
variable {K : PySem.W.Frag} {F F' : Hp} (s : Sub F F')
include s
mutual
theorem dp_mono : ∀ {v : V} {d : PyData}, Dp K F v d → Dp K F' v d
  | _, _, .non => .non
  | _, _, .bl b => .bl b
  | _, _, .int i => .int i
  | _, _, .str x => .str x
  | _, _, .lst h r => .lst (s.sqL h) (dp_monos r)
  | _, _, .tup h r => .tup (s.sqT h) (dp_monos r)
theorem dp_monos : ∀ {v : List V} {d : List PyData}, DpAll K F v d → DpAll K F' v d
  | _, _, .nil => .nil
  | _, _, .cons h r => .cons (dp_mono h) (dp_monos r)
end
end
/-- data that may be compared -/
def shp (d : D) : Bool := isPy d && SeqAt.shaped (py d)
def eqD (x y : D) : Bool := PyData.eqv (py x) (py y)
section
variable {X : Cx} {M : Mp} {Q : DQ} {x y : D}
theorem VO.eqD (hu : X.A.units + 64 < cLine) (hx : shp x = true) (hy : shp y = true) (h : Q (.bl (eqD x y)) M) : VO X (compareOp .Eq) x y M Q :=
  .op (op_eqD hu) fun H F v1 v2 R r1 r2 => by
    simp only [shp, Bool.and_eq_true] at hx hy
    exact ⟨_, _, dp_mono R.sub (r1.dp hx.1), dp_mono R.sub (r2.dp hy.1), hx.2, hy.2, F, M, _, Stp.refl R, .bl _, h⟩
theorem VO.neD (hu : X.A.units + 64 < cLine) (hx : shp x = true) (hy : shp y = true) (h : Q (.bl (!TL.eqD x y)) M) : VO X (compareOp .NotEq) x y M Q :=
  .op (op_neD hu) fun H F v1 v2 R r1 r2 => by
    simp only [shp, Bool.and_eq_true] at hx hy
    exact ⟨_, _, dp_mono R.sub (r1.dp hx.1), dp_mono R.sub (r2.dp hy.1), hx.2, hy.2, F, M, _, Stp.refl R, .bl _, h⟩
theorem VO.inD {ys : List D} (hu : X.A.units + 65 < cLine) (hx : shp x = true) (hy : shp (.lst ys) = true) (h : Q (.bl (ys.any fun z => TL.eqD z x)) M) : VO X (compareOp .In) x (.lst ys) M Q :=
  .op (op_inD hu) fun H F v1 v2 R r1 r2 => by
    simp only [shp, Bool.and_eq_true] at hx hy
    refine ⟨_, pys ys, dp_mono R.sub (r1.dp hx.1), dp_mono R.sub (r2.dp hy.1), hx.2, hy.2, F, M, _, Stp.refl R, .bl _, ?_⟩
    have e : (pys ys).any (fun z => PyData.eqv z (py x)) = ys.any fun z => TL.eqD z x := by rw [pys_map, List.any_map]; rfl
    rw [e]; exact h
theorem VO.notInD {ys : List D} (hu : X.A.units + 65 < cLine) (hx : shp x = true) (hy : shp (.lst ys) = true) (h : Q (.bl (!ys.any fun z => TL.eqD z x)) M) : VO X (compareOp .NotIn) x (.lst ys) M Q :=
  .op (op_notInD hu) fun H F v1 v2 R r1 r2 => by
    simp only [shp, Bool.and_eq_true] at hx hy
    refine ⟨_, pys ys, dp_mono R.sub (r1.dp hx.1), dp_mono R.sub (r2.dp hy.1), hx.2, hy.2, F, M, _, Stp.refl R, .bl _, ?_⟩
    have e : (pys ys).any (fun z => PyData.eqv z (py x)) = ys.any fun z => TL.eqD z x := by rw [pys_map, List.any_map]; rfl
    rw [e]; exact h
end
/-- flat data -/
def flatD : D → Bool
  | .non | .bl _ | .int _ | .str _ => true
  | _ => false
theorem flat_v {K : PySem.W.Frag} {F : Hp} {v : V} {d : D} (r : Rep K F v d) (h : flatD d = true) : flatV v = true := by
  cases r <;> simp_all [flatD, flatV]
theorem flat_vs {K : PySem.W.Frag} {F : Hp} {vs : List V} {ds : List D} (r : Reps K F vs ds) (h : ds.all flatD = true) : vs.all flatV = true := by
  induction vs generalizing ds with
  | nil => rfl
  | cons v vs ih =>
    cases r with
    | cons a r =>
      rw [List.all_cons, Bool.and_eq_true] at h ⊢
      exact ⟨flat_v a h.1, ih r h.2⟩
theorem flat_eq {K : PySem.W.Frag} {F : Hp} {v u : V} {d e : D} (r : Rep K F v d) (q : Rep K F u e) (h : flatD d = true) (h' : flatD e = true) : eqV v u = eqD d e := by
  cases r <;> cases q <;> simp_all [flatD, eqV, eqD, py, PyData.eqv]
theorem flat_in {K : PySem.W.Frag} {F : Hp} {u : V} {e : D} {vs : List V} {ds : List D} (r : Reps K F vs ds) (q : Rep K F u e) (h : ds.all flatD = true) (h' : flatD e = true) : inV u vs = ds.any fun z => eqD z e := by
  induction vs generalizing ds with
  | nil => cases r; rfl
  | cons v vs ih =>
    cases r with
    | cons a r =>
      rw [List.all_cons, Bool.and_eq_true] at h
      rw [List.any_cons, ← ih r h.2, ← flat_eq a q h.1 h']
      rfl
section
variable {X : Cx} {M : Mp} {Q : DQ} {x : D} {ys : List D}
theorem VO.inT (hx : flatD x = true) (hy : ys.all flatD = true) (h : Q (.bl (ys.any fun z => TL.eqD z x)) M) : VO X (compareOp .In) x (.tup ys) M Q :=
  .op op_in_seq fun H F v1 v2 R r1 r2 => by
    cases r2 with
    | tup s r => exact ⟨_, _, rfl, .inr (R.sub.sqT s), flat_v r1 hx, flat_vs r hy, F, M, _, Stp.refl R, .bl _, by rw [if_neg Bool.false_ne_true, flat_in r r1 hy hx]; exact h⟩
theorem VO.inL (hx : flatD x = true) (hy : ys.all flatD = true) (h : Q (.bl (ys.any fun z => TL.eqD z x)) M) : VO X (compareOp .In) x (.lst ys) M Q :=
  .op op_in_seq fun H F v1 v2 R r1 r2 => by
    cases r2 with
    | lst s r => exact ⟨_, _, rfl, .inl (.inl (R.sub.rd s)), flat_v r1 hx, flat_vs r hy, F, M, _, Stp.refl R, .bl _, by rw [if_neg Bool.false_ne_true, flat_in r r1 hy hx]; exact h⟩
/-- t + u -/
theorem VO.catT {xs : List D} (hl : xs.length + ys.length ≤ sizeLine) (h : Q (.tup (xs ++ ys)) M) : VO X (binaryOp .Add) (.tup xs) (.tup ys) M Q :=
  .op op_catA fun H F v1 v2 R r1 r2 => by
    cases r1 with
    | @tup _ va _ s r =>
      cases r2 with
      | @tup _ vb _ s' r' =>
        refine ⟨_, _, _, _, rfl, rfl, R.sub.sqT s, R.sub.sqT s', by rw [r.length, r'.length]; exact hl, fun e => ?_, fun e e' => ?_, fun e e' p hp => ?_⟩
        · subst e; cases r
          exact ⟨F, M, _, Stp.refl R, .tup s' r', h⟩
        · subst e'; cases r'
          exact ⟨F, M, _, Stp.refl R, .tup s r, by simpa using h⟩
        · have t := Stp.new (o := .tup (va ++ vb)) R hp
          exact ⟨_, M, _, t, .tup (.of upd_same) (t.reps (r.append r')), h⟩
/-- l + m -/
theorem VO.catL {xs : List D} (hl : xs.length + ys.length ≤ sizeLine) (h : Q (.lst (xs ++ ys)) M) : VO X (binaryOp .Add) (.lst xs) (.lst ys) M Q := by
  intro pins s σ H F v1 v2 u1 u2 I R r1 r2 p1 p2
  cases p1 with
  | @lst _ va _ q1 p1 =>
    cases p2 with
    | @lst _ vb _ q2 p2 =>
      cases r1
      cases r2
      obtain ⟨z1, i1, n1, w1, e1⟩ := (R.sub.rd q1).ok I.hok
      obtain ⟨z2, i2, n2, w2, e2⟩ := (R.sub.rd q2).ok I.hok
      have hz : i1.length + i2.length ≤ sizeLine := by rw [← w1.length, ← w2.length, p1.length, p2.length]; exact hl
      refine PySem.P.add_list e1 e2 ?_ (by simpa using hz)
      have ea : i1.toArray ++ i2.toArray = (i1 ++ i2).toArray := by simp
      rw [ea]
      have hf := I.fresh
      have t := Stp.new (o := .lst (va ++ vb)) R hf
      exact ⟨.ref _, _, _, M, _, I.lnew (t' := s.toks) (w1.append w2) (by rw [List.length_append, w1.length, w2.length]; exact hz), rfl, t, .lst (.of upd_same) (t.reps (p1.append p2)), h⟩
end
end TL
end
section
set_option maxRecDepth 100000
/-! TH: subscripts, slices, methods of built-in types, built-in functions, over tree values. -/
namespace TL
open PySem PySem.Spec PyProof.Rows L2

/-- a subscript by values -/
def VI (X : Cx) (x y : D) (M : Mp) (Q : DQ) : Prop :=
  ∀ (value slice : Expr) (pins : Pins) (s : Shared) (σ : SS) (H F : Hp) (v1 v2 : V) (u1 u2 : Value), Inv X pins σ H s → Good X.K H F M → RelV v1 u1 → RelV v2 u2 → Rep X.K F v1 x → Rep X.K F v2 y →
    subscripted slice false u1 u2 = operate [u1, u2] (getItem u1 u2) → wpAny (model X.prog X.w) X.A (subscriptTail value slice u1 u2) (TEnd X pins σ H F M Q) X.xe s
/-- a slice by values -/
def VS (X : Cx) (x : D) (lo hi : Option Int) (M : Mp) (Q : DQ) : Prop :=
  ∀ (pins : Pins) (s : Shared) (σ : SS) (H F : Hp) (v : V) (u vl vu : Value) (sl : Addr), Inv X pins σ H s → Good X.K H F M → RelV v u → Rep X.K F v x → s.heap.IsSliceOf sl vl vu .none → IsPart vl lo → IsPart vu hi →
    ∃ T id, typeLookup (.type T) "__getitem__" = pure (some (.builtin id)) ∧ s.TypeIs u T ∧ wpAny (model X.prog X.w) X.A (getItem u (.ref sl)) (TEnd X pins σ H F M Q) X.xe s
/-- a part of a slice -/
structure WO (X : Cx) (e : Option Expr) (ρ : En) (M : Mp) (Q : Option Int → Mp → Prop) : Prop where
  run : ∀ (pins : Pins) (s : Shared) (σ : SS) (H F : Hp), Inv X pins σ H s → Sim X.K H F M σ ρ →
    wpAny (model X.prog X.w) X.A (evalPart e X.env) (fun u s' => ∃ o H' F' M', Inv X pins σ H' s' ∧ IsPart u o ∧ Stp X.K H F M H' F' M' ∧ Q o M') X.xe s
section
variable {X : Cx} {M : Mp} {ρ : En} {Q : DQ} {a b e : Expr} {pos p2 : Pos} {lo hi : Option Expr}
theorem VI.ix {r : R2} {x y : D} (p : IxR X r) (h : ∀ H F v1 v2, Good X.K H F M → Rep X.K F v1 x → Rep X.K F v2 y → r v1 v2 H fun v H' => ∃ F' M' d, Stp X.K H F M H' F' M' ∧ Rep X.K F' v d ∧ Q d M') : VI X x y M Q :=
  fun va sl pins s σ H F v1 v2 u1 u2 I R r1 r2 p1 p2 hs => thn (p va sl pins s σ H v1 v2 u1 u2 _ I r1 r2 (h H F v1 v2 R p1 p2) hs) fun u s' ⟨v, H', I', r, F', M', d, st, rp, q⟩ => ⟨v, H', F', M', d, I', r, st, rp, q⟩
theorem WE.ix (h : WE X a ρ M fun x M1 => WE X b ρ M1 fun y M2 => VI X x y M2 Q) (hs : PlainIx b := by intro _ _; rfl) : WE X (.Subscript a b pos) ρ M Q :=
  ⟨fun pins s σ H F I S => Subscript_ (two I S h fun u1 u2 s2 v1 v2 x y H2 F2 M2 I2 t r1 r2 p1 p2 q => thn (q a b pins s2 σ H2 F2 v1 v2 u1 u2 I2 t.good r1 r2 p1 p2 (hs _ _)) fun _ _ e => e.back t)⟩
theorem VI.tup {xs : List D} {i : Int} {d : D} (hd : atI xs i = some d) (h : Q d M) : VI X (.tup xs) (.int i) M Q :=
  .ix ix_tup fun H F v1 v2 R r1 r2 => by
    cases r1 with
    | @tup _ vs _ s r =>
      cases r2
      have hd' : (ixN xs.length i).bind (fun j => xs[j]?) = some d := hd
      cases hj : ixN xs.length i with
      | none => rw [hj] at hd'; cases hd'
      | some j =>
        rw [hj] at hd'
        obtain ⟨v, hv, rv⟩ := r.get hd'
        refine ⟨_, vs, i, v, rfl, rfl, R.sub.sqT s, ?_, F, M, d, Stp.refl R, rv, h⟩
        show (ixN vs.length i).bind (fun j => vs[j]?) = some v
        rw [r.length, hj]; exact hv
theorem VI.lst {xs : List D} {i : Int} {d : D} (hd : atI xs i = some d) (h : Q d M) : VI X (.lst xs) (.int i) M Q :=
  .ix ix_list fun H F v1 v2 R r1 r2 => by
    cases r1 with
    | @lst _ vs _ s r =>
      cases r2
      have hd' : (ixN xs.length i).bind (fun j => xs[j]?) = some d := hd
      cases hj : ixN xs.length i with
      | none => rw [hj] at hd'; cases hd'
      | some j =>
        rw [hj] at hd'
        obtain ⟨v, hv, rv⟩ := r.get hd'
        refine ⟨_, vs, i, v, rfl, rfl, .inl (R.sub.rd s), ?_, F, M, d, Stp.refl R, rv, h⟩
        show (ixN vs.length i).bind (fun j => vs[j]?) = some v
        rw [r.length, hj]; exact hv
theorem VI.lstM {p : Addr} {xs : List D} {i : Int} {d : D} (hp : M p = some (.lst xs)) (hd : atI xs i = some d) (h : Q d M) : VI X (.ref p) (.int i) M Q :=
  .ix ix_list fun H F v1 v2 R r1 r2 => by
    cases r1
    cases r2
    obtain ⟨vs, hv, r⟩ := R.lst hp
    have hd' : (ixN xs.length i).bind (fun j => xs[j]?) = some d := hd
    cases hj : ixN xs.length i with
    | none => rw [hj] at hd'; cases hd'
    | some j =>
      rw [hj] at hd'
      obtain ⟨v, hv2, rv⟩ := r.get hd'
      refine ⟨_, vs, i, v, rfl, rfl, .inl (.of hv), ?_, F, M, d, Stp.refl R, rv, h⟩
      show (ixN vs.length i).bind (fun j => vs[j]?) = some v
      rw [r.length, hj]; exact hv2
theorem VI.str {x : List Nat} {i : Int} {c : Nat} (hl : x.length ≤ sizeLine) (hd : atI x i = some c) (h : Q (.str [c]) M) : VI X (.str x) (.int i) M Q :=
  .ix ix_str fun H F v1 v2 R r1 r2 => by
    cases r1
    cases r2
    exact ⟨_, i, c, rfl, rfl, by simpa [Str.length] using hl, by simpa using hd, F, M, _, Stp.refl R, .str [c], h⟩

/-! ### slices -/
theorem VS.sl {r : V → Option Int → Option Int → Hp → VK → Prop} {x : D} {l u : Option Int} (p : SlR X r) (h : ∀ H F v, Good X.K H F M → Rep X.K F v x → r v l u H fun v H' => ∃ F' M' d, Stp X.K H F M H' F' M' ∧ Rep X.K F' v d ∧ Q d M') : VS X x l u M Q :=
  fun pins s σ H F v w vl vu sl I R r1 p1 hs pl pu => by
    obtain ⟨T, id, h1, h2, h3⟩ := p pins s σ H v w vl vu l u sl _ I r1 hs pl pu (h H F v R p1)
    exact ⟨T, id, h1, h2, thn h3 fun u s' ⟨v, H', I', r, F', M', d, st, rp, q⟩ => ⟨v, H', F', M', d, I', r, st, rp, q⟩⟩
theorem WO.none {QO : Option Int → Mp → Prop} (h : QO none M) : WO X none ρ M QO := by
  refine ⟨fun pins s σ H F I S => ?_⟩
  rw [evalPart_none]
  exact wpAny_pure ⟨Option.none, H, F, M, I, .none, Stp.refl S.good, h⟩
theorem WO.some {QO : Option Int → Mp → Prop} (h : WE X e ρ M fun d M1 => ∃ i, d = .int i ∧ QO (some i) M1) : WO X (some e) ρ M QO := by
  refine ⟨fun pins s σ H F I S => ?_⟩
  rw [evalPart_some]
  refine thn (h.run pins s σ H F I S) fun u s1 ⟨v, H1, F1, M1, d, I1, r1, t1, p1, i, ed, q⟩ => ?_
  subst ed
  cases p1
  obtain ⟨t, rfl⟩ := r1
  exact ⟨Option.some i, H1, F1, M1, I1, .int i t, t1, q⟩
theorem WE.slice (h : WE X e ρ M fun x M1 => WO X lo ρ M1 fun l M2 => WO X hi ρ M2 fun u M3 => VS X x l u M3 Q) : WE X (.Subscript e (.Slice lo hi none p2) pos) ρ M Q := by
  refine ⟨fun pins s σ H F I S => ?_⟩
  refine Subscript_ (thn (h.run pins s σ H F I S) fun v s1 ⟨x, H1, F1, M1, d, I1, r1, t1, p1, q1⟩ => ?_)
  refine wpAny_Slice (thn (q1.run pins s1 σ H1 F1 I1 (S.step t1)) fun vl s2 ⟨l, H2, F2, M2, I2, pl, t2, q2⟩ => thn (q2.run pins s2 σ H2 F2 I2 (S.step (t1.trans t2))) fun vu s3 ⟨u, H3, F3, M3, I3, pu, t3, q3⟩ => ?_)
  rw [evalPart_none]
  refine wpAny_pure ?_
  have t := (t1.trans t2).trans t3
  have I4 : Inv X pins σ H3 { s3 with heap := s3.heap.push { cls := .type "slice", data := .fields #[vl, vu, .none] } } := I3.kept (t' := s3.toks) fun b ob q => Heap.get?_push_of_some _ q
  obtain ⟨T, id, hT, ht, hg⟩ := q3 pins { s3 with heap := s3.heap.push { cls := .type "slice", data := .fields #[vl, vu, .none] } } σ H3 F3 x v vl vu s3.heap.objs.size I4 t.good r1 ((t2.trans t3).rep p1) (Heap.IsSliceOf.new ..) pl pu
  show wpAny (model X.prog X.w) X.A (subscriptTail e (.Slice lo hi none p2) v (.ref s3.heap.objs.size)) (TEnd X pins σ H F M Q) X.xe { s3 with heap := s3.heap.push { cls := .type "slice", data := .fields #[vl, vu, .none] } }
  exact tail_any (ops := [.ref s3.heap.objs.size, v]) ht hT (thn hg fun _ _ e => e.back t) (by with_unfolding_all rfl)
/-- xs[lo:hi] -/
def cutD {α : Type} (xs : List α) (lo hi : Option Int) : List α := (xs.drop (HT.sIx xs.length 0 lo)).take (HT.sIx xs.length xs.length hi - HT.sIx xs.length 0 lo)
theorem Reps.cut {K : PySem.W.Frag} {F : Hp} {vs : List V} {ds : List D} (r : Reps K F vs ds) (lo hi : Option Int) : Reps K F (cutV vs lo hi) (cutD ds lo hi) := by
  unfold cutV cutD
  rw [r.length]
  exact (r.drop _).take _
theorem cutD_all {α : Type} {xs : List α} {lo hi : Option Int} (h : HT.sIx xs.length 0 lo = 0 ∧ HT.sIx xs.length xs.length hi = xs.length) : cutD xs lo hi = xs := by
  unfold cutD
  rw [h.1, h.2, List.drop_zero, Nat.sub_zero, List.take_length]
theorem VS.tup {xs : List D} {l u : Option Int} (h : Q (.tup (cutD xs l u)) M) : VS X (.tup xs) l u M Q :=
  .sl sl_tupA fun H F v R r1 => by
    cases r1 with
    | @tup _ vs _ s r =>
      refine ⟨_, vs, rfl, R.sub.sqT s, fun hw => ⟨F, M, _, Stp.refl R, .tup s r, ?_⟩, fun hw p hp => ?_⟩
      · rw [r.length] at hw
        rw [cutD_all hw] at h
        exact h
      · have t := Stp.new (o := .tup (cutV vs l u)) R hp
        exact ⟨_, M, _, t, .tup (.of upd_same) (t.reps (r.cut l u)), h⟩
theorem VS.lst {xs : List D} {l u : Option Int} (h : Q (.lst (cutD xs l u)) M) : VS X (.lst xs) l u M Q :=
  .sl sl_list fun H F v R r1 => by
    cases r1 with
    | @lst _ vs _ s r =>
      refine ⟨_, vs, rfl, .inl (R.sub.rd s), fun p hp => ?_⟩
      have t := Stp.new (o := .lst (cutV vs l u)) R hp
      exact ⟨_, M, _, t, .lst (.of upd_same) (t.reps (r.cut l u)), h⟩
theorem VS.str {x : List Nat} {l u : Option Int} (hl : x.length ≤ sizeLine) (h : Q (.str (cutD x l u)) M) : VS X (.str x) l u M Q :=
  .sl sl_str fun H F v R r1 => by
    cases r1
    refine ⟨_, rfl, by simpa [Str.length] using hl, F, M, _, Stp.refl R, ?_, h⟩
    have e : cutS ⟨x.toArray⟩ l u = ⟨(cutD x l u).toArray⟩ := by simp [cutS, cutD, Str.length]
    rw [e]
    exact .str _
end
end TL
end
section
set_option maxRecDepth 100000
/-! TI: methods of built-in types, built-in functions, over tree values. -/
namespace TL
open PySem PySem.Spec PyProof.Rows L2

/-- a method of a built-in type by values -/
def VM (X : Cx) (id : String) (x : D) (xs : List D) (M : Mp) (Q : DQ) : Prop :=
  ∀ (pins : Pins) (s : Shared) (σ : SS) (H F : Hp) (v : V) (u : Value) (vs : List V) (us : List Value), Inv X pins σ H s → Good X.K H F M → RelV v u → Rep X.K F v x → Vals vs us → Reps X.K F vs xs →
    wpAny (model X.prog X.w) X.A (call (.builtin id) (u :: us)) (TEnd X pins σ H F M Q) X.xe s
def TyIs (X : Cx) (M : Mp) (x : D) (T : String) : Prop :=
  ∀ (pins : Pins) (s : Shared) (σ : SS) (H F : Hp) (v : V) (u : Value), Inv X pins σ H s → Good X.K H F M → RelV v u → Rep X.K F v x → s.TypeIs u T ∧ ∀ a, u = .ref a → ∃ ob, s.heap.get? a = some ob ∧ ob.dict = none
theorem TyIs.of {X : Cx} {M : Mp} {x : D} {T : String} (h : ∀ H F v, Good X.K H F M → Rep X.K F v x → tyV X.K T v H) : TyIs X M x T :=
  fun pins s σ H F v u I R r1 p1 => tyV_is I r1 (h H F v R p1)
theorem TyIs.str {X : Cx} {M : Mp} {x : List Nat} : TyIs X M (.str x) "str" := .of fun H F v R p => by cases p; exact rfl
theorem TyIs.lst {X : Cx} {M : Mp} {xs : List D} : TyIs X M (.lst xs) "list" := .of fun H F v R p => by
  cases p with
  | lst s r => exact .inl ⟨rfl, _, .inl (R.sub.rd s)⟩
theorem TyIs.lstM {X : Cx} {M : Mp} {a : Addr} {xs : List D} (h : M a = some (.lst xs)) : TyIs X M (.ref a) "list" := .of fun H F v R p => by
  cases p
  obtain ⟨vs, hv, _⟩ := R.lst h
  exact .inl ⟨rfl, _, .inl (.of hv)⟩
theorem TyIs.dicM {X : Cx} {M : Mp} {a : Addr} {xs : List (Key × D)} (h : M a = some (.dic xs)) : TyIs X M (.ref a) "dict" := .of fun H F v R p => by
  cases p
  obtain ⟨vs, hv, _⟩ := R.dic h
  exact .inr (.inr (.inl ⟨rfl, .inl ⟨_, hv⟩⟩))
section
variable {X : Cx} {M : Mp} {ρ : En} {Q : DQ} {o e : Expr} {es : List Expr} {name x : Str} {apos cpos p pos : Pos} {T id : String}
theorem VM.mt {r : V → List V → Hp → VK → Prop} {x : D} {xs : List D} (m : MtR X id r) (h : ∀ H F v vs, Good X.K H F M → Rep X.K F v x → Reps X.K F vs xs → r v vs H fun v H' => ∃ F' M' d, Stp X.K H F M H' F' M' ∧ Rep X.K F' v d ∧ Q d M') : VM X id x xs M Q :=
  fun pins s σ H F v u vs us I R r1 p1 r2 p2 => thn (m pins s σ H v vs u us _ I r1 r2 (h H F v vs R p1 p2)) fun u s' ⟨v, H', I', r, F', M', d, st, rp, q⟩ => ⟨v, H', F', M', d, I', r, st, rp, q⟩
theorem WE.bm0 (pa : PlainAttrs T) (slot : Slot T name id) (hty : typeOf (.builtin id) = pure (.type "method_descriptor")) (h : WE X o ρ M fun x M1 => TyIs X M1 x T ∧ VM X id x [] M1 Q)
    (hbase : attributeBase o name X.env (eval o X.env) = eval o X.env := by rfl) (hline : (apos.endLine == cpos.line) = true := by rfl) : WE X (.Call (.Attribute o name apos) [] [] cpos) ρ M Q := by
  refine ⟨fun pins s σ H F I S => ?_⟩
  refine wpAny_Call_method0_late hbase hline (thn (h.run pins s σ H F I S) fun v s1 ⟨x, H1, F1, M1, d, I1, r1, t1, p1, ty, q1⟩ => ?_)
  obtain ⟨h1, h2⟩ := ty pins s1 σ H1 F1 x v I1 t1.good r1 p1
  exact ⟨T, id, pa, slot, hty, h1, h2, Calls.callWith_builtin rfl (PySem.evalArgs_none (thn (q1 pins s1 σ H1 F1 x v [] [] I1 t1.good r1 p1 .nil .nil) fun _ _ e => e.back t1))⟩
theorem WE.bm (pa : PlainAttrs T) (slot : Slot T name id) (hty : typeOf (.builtin id) = pure (.type "method_descriptor"))
    (h : WE X o ρ M fun x M1 => TyIs X M1 x T ∧ WA X (e :: es) ρ M1 fun xs M2 => VM X id x xs M2 Q)
    (hbase : attributeBase o name X.env (eval o X.env) = eval o X.env := by rfl)
    (hfew : ((backTo cpos (starEach (e :: es) X.env)).all (fun x => !x.1) && (backToKw cpos (keywordEach [] X.env)).all (fun x => x.1.isSome)
      && decide ((e :: es).length + ([] : List Keyword).length + (if ([] : List Keyword).isEmpty then 0 else 1) < 30)) = true := by rfl)
    (hline : (apos.endLine == cpos.line) = true := by rfl) (hs : starEach (e :: es) X.env = (false, eval e X.env) :: starEach es X.env := by rfl) (hplain : (backTo cpos (starEach es X.env)).any (·.1) = false := by rfl) :
    WE X (.Call (.Attribute o name apos) (e :: es) [] cpos) ρ M Q := by
  refine ⟨fun pins s σ H F I S => ?_⟩
  refine wpAny_Call_method_late hbase hfew hline rfl (thn (h.run pins s σ H F I S) fun v s1 ⟨x, H1, F1, M1, d, I1, r1, t1, p1, ty, q1⟩ => ?_)
  obtain ⟨h1, h2⟩ := ty pins s1 σ H1 F1 x v I1 t1.good r1 p1
  refine ⟨T, id, pa, slot, hty, h1, h2, ?_⟩
  have hA := q1.run cpos pins s1 σ H1 F1 I1 (S.step t1)
  rw [hs] at hA ⊢
  refine Calls.callWith_builtin (by show (false || (backTo cpos (starEach es X.env)).any (·.1)) = false; rw [hplain] <;> rfl) (Calls.evalArgs_plain ?_)
  exact thn hA fun us s2 ⟨vs, H2, F2, M2, ds, I2, r2, t2, p2, q2⟩ => thn (q2 pins s2 σ H2 F2 x v vs us I2 t2.good r1 (t2.rep p1) r2 p2) fun _ _ e => e.back (t1.trans t2)
/-- f(e, ..), f a built-in function; a built-in type -/
theorem WE.callB (hm : X.mg x = none) (hv : bootBuiltins x = some (.builtin id)) (h : WA X (e :: es) ρ M fun xs M1 => VC X (.builtin id) xs M1 Q) (hg : Gl X x := by rfl) (hn : x ≠ "__name__" := by decide) (hdb : (x == ("__debug__" : Str)) = false := by decide)
    (he : starEach (e :: es) X.env = (false, eval e X.env) :: starEach es X.env := by rfl) (hpl : (backTo pos (starEach es X.env)).any (·.1) = false := by rfl) : WE X (.Call (.Name x p) (e :: es) [] pos) ρ M Q :=
  ⟨fun pins s σ H F I S => wpAny_Call_Name_kw (ld_blt I hg hm hv (PyProof.Rows.callWith_builtin1 (thn (h.run pos pins s σ H F I S) fun us s1 ⟨vs, H1, F1, M1, ds, I1, r1, t1, p1, q1⟩ => thn (q1 pins s1 σ H1 F1 vs us I1 t1.good r1 p1) fun _ _ e => e.back t1) he hpl) hn hdb)⟩
theorem WE.callTy (hm : X.mg x = none) (hv : bootBuiltins x = some (.type T)) (h : WA X (e :: es) ρ M fun xs M1 => VC X (.type T) xs M1 Q) (hg : Gl X x := by rfl) (hn : x ≠ "__name__" := by decide) (hdb : (x == ("__debug__" : Str)) = false := by decide)
    (he : starEach (e :: es) X.env = (false, eval e X.env) :: starEach es X.env := by rfl) (hpl : (backTo pos (starEach es X.env)).any (·.1) = false := by rfl) : WE X (.Call (.Name x p) (e :: es) [] pos) ρ M Q :=
  ⟨fun pins s σ H F I S => wpAny_Call_Name_kw (ld_blt I hg hm hv (PyProof.Rows.callWith_type1 (thn (h.run pos pins s σ H F I S) fun us s1 ⟨vs, H1, F1, M1, ds, I1, r1, t1, p1, q1⟩ => thn (q1 pins s1 σ H1 F1 vs us I1 t1.good r1 p1) fun _ _ e => e.back t1) he hpl) hn hdb)⟩

/-! ### methods -/
theorem VM.append {a : Addr} {xs : List D} {d : D} (hm : M a = some (.lst xs)) (hl : xs.length < sizeLine) (h : Q .non (mset M a (.lst (xs ++ [d])))) : VM X "list.append" (.ref a) [d] M Q :=
  .mt mt_append fun H F v vs R p1 p2 => by
    cases p1
    cases p2 with
    | cons q p2 =>
      cases p2
      obtain ⟨ws, hw, r⟩ := R.lst hm
      refine ⟨a, ws, _, rfl, rfl, hw, by rw [r.length]; exact hl, F, _, _, Stp.write R hm (.lst (r.append (.cons q .nil))), .non, h⟩
theorem VM.pop {a : Addr} {xs : List D} {d : D} (hm : M a = some (.lst (xs ++ [d]))) (h : Q d (mset M a (.lst xs))) : VM X "list.pop" (.ref a) [] M Q :=
  .mt mt_pop fun H F v vs R p1 p2 => by
    cases p1
    cases p2
    obtain ⟨ws, hw, r⟩ := R.lst hm
    have hl := r.length
    rw [List.length_append, List.length_singleton] at hl
    obtain ⟨v, hv, rv⟩ := r.get (i := ws.length - 1) (d := d) (by rw [hl]; simp)
    refine ⟨a, ws, v, rfl, rfl, hw, hv, F, _, _, Stp.write R hm (.lst (ds := xs) ?_), rv, h⟩
    have := r.take xs.length
    rw [List.take_append_of_le_length (Nat.le_refl _), List.take_length] at this
    rw [List.dropLast_eq_take, hl, Nat.add_sub_cancel]
    exact this
theorem reps_strs {K : PySem.W.Frag} {F : Hp} {vs : List V} : ∀ {ys : List (List Nat)}, Reps K F vs (ys.map D.str) → vs = (ys.map fun y => (⟨y.toArray⟩ : Str)).map V.str := by
  intro ys
  induction ys generalizing vs with
  | nil => intro r; cases r; rfl
  | cons y ys ih =>
    intro r
    cases r with
    | cons a r =>
      cases a
      rw [ih r]
      rfl
theorem reps_ints {K : PySem.W.Frag} {F : Hp} {vs : List V} : ∀ {ns : List Int}, Reps K F vs (ns.map D.int) → vs = ns.map V.int := by
  intro ys
  induction ys generalizing vs with
  | nil => intro r; cases r; rfl
  | cons y ys ih =>
    intro r
    cases r with
    | cons a r =>
      cases a
      rw [ih r]
      rfl
theorem reps_bls {K : PySem.W.Frag} {F : Hp} {vs : List V} : ∀ {ns : List Bool}, Reps K F vs (ns.map D.bl) → vs = ns.map V.bl := by
  intro ys
  induction ys generalizing vs with
  | nil => intro r; cases r; rfl
  | cons y ys ih =>
    intro r
    cases r with
    | cons a r =>
      cases a
      rw [ih r]
      rfl
theorem rep_ints {K : PySem.W.Frag} {F : Hp} : ∀ ns : List Int, Reps K F (ns.map V.int) (ns.map D.int)
  | [] => .nil
  | n :: ns => .cons (.int n) (rep_ints ns)
theorem rep_strs {K : PySem.W.Frag} {F : Hp} : ∀ ns : List (List Nat), Reps K F (ns.map fun y => V.str ⟨y.toArray⟩) (ns.map D.str)
  | [] => .nil
  | n :: ns => .cons (.str n) (rep_strs ns)
theorem join_nil : ∀ ys : List (List Nat), Str.join ⟨#[]⟩ (ys.map fun y => (⟨y.toArray⟩ : Str)) = ⟨ys.flatten.toArray⟩
  | [] => rfl
  | [y] => by simp [Str.join]
  | y :: z :: r => by
    have ih := join_nil (z :: r)
    show (⟨y.toArray⟩ : Str) ++ ⟨#[]⟩ ++ Str.join ⟨#[]⟩ ((z :: r).map fun y => (⟨y.toArray⟩ : Str)) = _
    rw [ih]
    show Str.mk ((y.toArray ++ #[]) ++ ((z :: r).flatten).toArray) = Str.mk (y ++ (z :: r).flatten).toArray
    simp
/-- ''.join -/
theorem join_end {F : Hp} {ys : List (List Nat)} : Rep X.K F (.str (Txt.join ⟨(lit "").toArray⟩ (ys.map fun y => (⟨y.toArray⟩ : Str)))) (.str ys.flatten) := by
  have e0 : (⟨(lit "").toArray⟩ : Str) = ⟨#[]⟩ := by decide
  have ej : Txt.join ⟨(lit "").toArray⟩ (ys.map fun y => (⟨y.toArray⟩ : Str)) = ⟨ys.flatten.toArray⟩ := by
    rw [e0]
    rw [join_eq]
    exact join_nil ys
  rw [ej]
  exact .str _
theorem join_len {ys : List (List Nat)} (hl : (ys.map List.length).sum ≤ 16777216) :
    ((ys.map fun y => (⟨y.toArray⟩ : Str)).map (·.length)).sum + (ys.map fun y => (⟨y.toArray⟩ : Str)).length * (⟨(lit "").toArray⟩ : Str).length ≤ 16777216 := by
  have e0 : (⟨(lit "").toArray⟩ : Str) = ⟨#[]⟩ := by decide
  rw [e0, List.map_map]
  show (ys.map List.length).sum + _ * 0 ≤ 16777216
  rw [Nat.mul_zero]
  exact hl
theorem VM.joinL {ys : List (List Nat)} (hl : (ys.map List.length).sum ≤ 16777216) (h : Q (.str ys.flatten) M) : VM X "str.join" (.str (lit "")) [.lst (ys.map D.str)] M Q :=
  .mt mt_join fun H F v vs R p1 p2 => by
    cases p1
    cases p2 with
    | cons q p2 =>
      cases p2
      cases q with
      | lst s r => exact ⟨_, _, _, rfl, rfl, .inl (.inl (reps_strs r ▸ R.sub.rd s)), join_len hl, F, M, _, Stp.refl R, join_end, h⟩
theorem VM.joinT {ys : List (List Nat)} (hl : (ys.map List.length).sum ≤ 16777216) (h : Q (.str ys.flatten) M) : VM X "str.join" (.str (lit "")) [.tup (ys.map D.str)] M Q :=
  .mt mt_join fun H F v vs R p1 p2 => by
    cases p1
    cases p2 with
    | cons q p2 =>
      cases p2
      cases q with
      | tup s r => exact ⟨_, _, _, rfl, rfl, .inr (reps_strs r ▸ R.sub.sqT s), join_len hl, F, M, _, Stp.refl R, join_end, h⟩
/-- l.index(y): the first equal one -/
theorem VM.index {y : D} {xs : List D} (hu : X.A.units + 65 < cLine) (hx : shp (.lst xs) = true) (hy : shp y = true) {j : Nat} (hj : xs.findIdx? (fun z => eqD z y) = some j) (h : Q (.int (j : Nat)) M) : VM X "list.index" (.lst xs) [y] M Q :=
  .mt (mt_indexD hu) fun H F v vs R p1 p2 => by
    cases p2 with
    | cons q p2 =>
      cases p2
      simp only [shp, Bool.and_eq_true] at hx hy
      have hd := dp_mono R.sub (p1.dp hx.1)
      cases p1 with
      | lst s r =>
        obtain ⟨hj1, hj2, hj3⟩ := List.findIdx?_eq_some_iff_getElem.mp hj
        refine ⟨_, _, py y, pys xs, j, py xs[j], rfl, rfl, hd, dp_mono R.sub (q.dp hy.1), hx.2, hy.2, by rw [pys_map]; simp [hj1], hj2, fun m z' hm hz => ?_, F, M, _, Stp.refl R, .int _, h⟩
        rw [pys_map, List.getElem?_map, List.getElem?_eq_getElem (by omega)] at hz
        cases hz
        have := hj3 m hm
        simpa [eqD] using this

/-! ### built-in functions -/
def lenD : D → Option Nat
  | .str x => if x.length ≤ sizeLine then some x.length else none
  | .lst xs => some xs.length
  | .tup xs => some xs.length
  | _ => none
theorem VC.len {d : D} {n : Nat} (hn : lenD d = some n) (h : Q (.int n) M) : VC X (.builtin "len") [d] M Q :=
  .call call_len fun H F vs R p => by
    cases p with
    | cons q p =>
      cases p
      refine ⟨_, n, rfl, ?_, F, M, _, Stp.refl R, .int _, h⟩
      cases q with
      | str x =>
        have hn' : (if x.length ≤ sizeLine then some x.length else none) = some n := hn
        by_cases hz : x.length ≤ sizeLine
        · rw [if_pos hz] at hn'
          cases hn'
          exact ⟨by simpa [Str.length] using hz, by simp [Str.length]⟩
        · rw [if_neg hz] at hn'
          cases hn'
      | lst s r =>
        cases hn
        exact .inl ⟨_, .inl (R.sub.rd s), r.length.symm⟩
      | tup s r =>
        cases hn
        exact .inr ⟨_, R.sub.sqT s, r.length.symm⟩
      | _ => cases hn
theorem VC.lenM {a : Addr} {xs : List D} (hm : M a = some (.lst xs)) (h : Q (.int xs.length) M) : VC X (.builtin "len") [.ref a] M Q :=
  .call call_len fun H F vs R p => by
    cases p with
    | cons q p =>
      cases p
      cases q
      obtain ⟨ws, hw, r⟩ := R.lst hm
      exact ⟨_, _, rfl, .inl ⟨_, .inl (.of hw), r.length.symm⟩, F, M, _, Stp.refl R, .int _, h⟩
theorem VC.max2 (hc : X.calm = true) {i j : Int} (h : Q (.int (max i j)) M) : VC X (.builtin "max") [.int i, .int j] M Q :=
  .call (call_max2 hc) fun H F vs R p => by
    cases p with
    | cons q p =>
      cases p with
      | cons q2 p =>
        cases p
        cases q
        cases q2
        refine ⟨i, j, rfl, F, M, _, Stp.refl R, .int _, ?_⟩
        have e : (if j > i then j else i) = max i j := by
          split <;> omega
        rw [e]; exact h
theorem VC.min2 (hc : X.calm = true) {i j : Int} (h : Q (.int (min i j)) M) : VC X (.builtin "min") [.int i, .int j] M Q :=
  .call (call_min2 hc) fun H F vs R p => by
    cases p with
    | cons q p =>
      cases p with
      | cons q2 p =>
        cases p
        cases q
        cases q2
        refine ⟨i, j, rfl, F, M, _, Stp.refl R, .int _, ?_⟩
        have e : (if j < i then j else i) = min i j := by
          split <;> omega
        rw [e]; exact h
theorem VC.int1 {i : Int} (h : Q (.int i) M) : VC X (.type "int") [.int i] M Q :=
  .call call_int1 fun H F vs R p => by
    cases p with
    | cons q p =>
      cases p
      cases q
      exact .inl ⟨i, rfl, F, M, _, Stp.refl R, .int _, h⟩
theorem VC.tupleL {xs : List D} (h : Q (.tup xs) M) : VC X (.type "tuple") [.lst xs] M Q :=
  .call call_tuple_of fun H F vs R p => by
    cases p with
    | cons q p =>
      cases p
      cases q with
      | @lst _ ws _ s r =>
        refine ⟨_, ws, rfl, .inl ⟨.inl (R.sub.rd s), fun l hl => ?_⟩⟩
        have t := Stp.new (o := .tup ws) R hl
        exact ⟨_, M, _, t, .tup (.of upd_same) (t.reps r), h⟩
theorem VC.tupleM {a : Addr} {xs : List D} (hm : M a = some (.lst xs)) (h : Q (.tup xs) M) : VC X (.type "tuple") [.ref a] M Q :=
  .call call_tuple_of fun H F vs R p => by
    cases p with
    | cons q p =>
      cases p
      cases q
      obtain ⟨ws, hw, r⟩ := R.lst hm
      refine ⟨_, ws, rfl, .inl ⟨.inl (.of hw), fun l hl => ?_⟩⟩
      have t := Stp.new (o := .tup ws) R hl
      exact ⟨_, M, _, t, .tup (.of upd_same) (t.reps r), h⟩
theorem VC.listT {xs : List D} (h : Q (.lst xs) M) : VC X (.type "list") [.tup xs] M Q :=
  .call call_list_of fun H F vs R p => by
    cases p with
    | cons q p =>
      cases p
      cases q with
      | @tup _ ws _ s r =>
        refine ⟨_, ws, rfl, .inr (R.sub.sqT s), fun l hl => ?_⟩
        have t := Stp.new (o := .lst ws) R hl
        exact ⟨_, M, _, t, .lst (.of upd_same) (t.reps r), h⟩
theorem VC.listL {xs : List D} (h : Q (.lst xs) M) : VC X (.type "list") [.lst xs] M Q :=
  .call call_list_of fun H F vs R p => by
    cases p with
    | cons q p =>
      cases p
      cases q with
      | @lst _ ws _ s r =>
        refine ⟨_, ws, rfl, .inl (.inl (R.sub.rd s)), fun l hl => ?_⟩
        have t := Stp.new (o := .lst ws) R hl
        exact ⟨_, M, _, t, .lst (.of upd_same) (t.reps r), h⟩
/-- .. to be written -/
theorem VC.listLM {xs : List D} (h : ∀ p, M p = none → Q (.ref p) (mset M p (.lst xs))) : VC X (.type "list") [.lst xs] M Q :=
  .call call_list_of fun H F vs R p => by
    cases p with
    | cons q p =>
      cases p
      cases q with
      | @lst _ ws _ s r =>
        refine ⟨_, ws, rfl, .inl (.inl (R.sub.rd s)), fun l hl => ?_⟩
        exact ⟨_, _, _, Stp.newM R hl (.lst r), .ref _, h l (R.free hl)⟩
theorem VC.sum (hc : X.calm = true) {ns : List Int} (h : Q (.int ns.sum) M) : VC X (.builtin "sum") [.lst (ns.map D.int)] M Q :=
  .call (cr_sum hc) fun H F vs R p => by
    cases p with
    | cons q p =>
      cases p
      cases q with
      | lst s r =>
        obtain rfl := reps_ints r
        exact ⟨_, ns, rfl, .inl (R.sub.rd s), F, M, _, Stp.refl R, .int _, h⟩
theorem VC.all (hc : X.calm = true) {bs : List Bool} (h : Q (.bl (bs.all fun b => b)) M) : VC X (.builtin "all") [.lst (bs.map D.bl)] M Q :=
  .call (cr_all hc) fun H F vs R p => by
    cases p with
    | cons q p =>
      cases p
      cases q with
      | lst s r =>
        obtain rfl := reps_bls r
        exact ⟨_, bs, rfl, .inl (R.sub.rd s), F, M, _, Stp.refl R, .bl _, h⟩
/-- sorted(l) of ints -/
theorem sorted_one : ∀ {xs ys : List Int}, xs.Perm ys → xs.Pairwise (· ≤ ·) → ys.Pairwise (· ≤ ·) → xs = ys
  | [], ys, p, _, _ => by
    have := p.length_eq
    cases ys with
    | nil => rfl
    | cons y ys => simp at this
  | x :: xs, ys, p, hx, hy => by
    cases ys with
    | nil => have := p.length_eq; simp at this
    | cons y ys =>
      obtain ⟨h1, h2⟩ := List.pairwise_cons.mp hx
      obtain ⟨k1, k2⟩ := List.pairwise_cons.mp hy
      have e : x = y := by
        have a : x ∈ y :: ys := p.subset (List.mem_cons_self ..)
        have b : y ∈ x :: xs := p.symm.subset (List.mem_cons_self ..)
        rcases List.mem_cons.mp a with a | a
        · exact a
        · rcases List.mem_cons.mp b with b | b
          · exact b.symm
          · have c := h1 y b
            have d := k1 x a
            omega
      subst e
      rw [sorted_one (List.Perm.cons_inv p) h2 k2]
def sortI (ns : List Int) : List Int := ns.mergeSort fun a b => decide (a ≤ b)
theorem sortI_perm (ns : List Int) : (sortI ns).Perm ns := List.mergeSort_perm ns _
theorem sortI_le (ns : List Int) : (sortI ns).Pairwise (· ≤ ·) := by
  have := List.pairwise_mergeSort (le := fun (a b : Int) => decide (a ≤ b)) (fun a b c h k => by simp at *; omega) (fun a b => by simp; omega) ns
  exact this.imp fun h => by simpa using h
theorem VC.sorted {ns : List Int} (h : Q (.lst ((sortI ns).map D.int)) M) : VC X (.builtin "sorted") [.lst (ns.map D.int)] M Q :=
  .call cr_sortedI fun H F vs R p => by
    cases p with
    | cons q p =>
      cases p
      cases q with
      | lst s r =>
        obtain rfl := reps_ints r
        refine ⟨_, ns, rfl, .inl (R.sub.rd s), fun ns' p hp hs hf => ?_⟩
        obtain rfl := sorted_one (hp.trans (sortI_perm ns).symm) hs (sortI_le ns)
        have t := Stp.new (o := .lst ((sortI ns).map V.int)) R hf
        exact ⟨_, M, _, t, .lst (.of upd_same) (rep_ints _), h⟩
/-! ### isinstance -/
/-- a value's type -/
def tyD : D → Option String
  | .non => some "NoneType"
  | .bl _ => some "bool"
  | .int _ => some "int"
  | .str _ => some "str"
  | .tup _ => some "tuple"
  | .lst _ => some "list"
  | .dic _ => some "dict"
  | _ => none
theorem VC.isi {d : D} {t c : String} {b : Bool} (ht : tyD d = some t) (hb : kitB t c = some b) (h : Q (.bl b) M) : VC X (.builtin "isinstance") [d, .ty c] M Q :=
  .call call_isi fun H F vs R p => by
    cases p with
    | cons q p =>
      cases p with
      | cons q2 p =>
        cases p
        cases q2
        refine ⟨_, _, .type t, .type c, b, rfl, .ty c, ?_, kit_ty hb, F, M, _, Stp.refl R, .bl _, h⟩
        cases q with
        | non => cases ht; exact .base .non
        | bl k => cases ht; exact .base (.bl k)
        | int k => cases ht; exact .base (.int k)
        | str k => cases ht; exact .base (.str _)
        | tup s r =>
          cases ht
          rcases R.sub.sqT s with (s | ⟨o, s⟩) | ⟨o, its, n, s, hc, _⟩
          · exact .base (.tup s)
          · exact .fTuple s
          · exact .kTuple s hc
        | lst s r =>
          cases ht
          rcases R.sub.rd s with s | ⟨o, s⟩
          · exact .base (.lst s)
          · exact .base (.frz s)
        | dic s r => cases ht; exact .base (.dK (R.sub _ _ s))
        | _ => cases ht
end
end TL
end
section
set_option maxRecDepth 100000
/-! TJ: calls of defs, over tree values. -/
namespace TL
open PySem PySem.Spec PyProof.Rows L2

/-- room for k calls; no repr is under way -/
structure GRoom (k : Nat) (A : Around) : Prop where
  room : Room k A
  grd : A.guards = some []
theorem GRoom.mono {j k : Nat} {A : Around} (r : GRoom k A) (h : j ≤ k) : GRoom j A := ⟨r.room.mono h, r.grd⟩
theorem GRoom.deeper {k : Nat} {A : Around} (r : GRoom (k + 1) A) (env : Env) : GRoom k (A.deeper env) := ⟨r.room.deeper env, r.grd⟩
theorem GRoom.in1 {k : Nat} {A : Around} (r : GRoom (k + 1) A) : GRoom k A.in1 := ⟨r.room.in1, r.grd⟩
theorem make_guards {A : Around} {C : Addr} {us : List Value} {kw : List (Str × Value)} : (A.under (.builtin "type.__call__" ⟨.ref C :: us, kw⟩)).guards = A.guards := by
  first
    | rfl
    | simp [Around.under, Code.guards, Code.isGuard, guardIds, pushGuards]
theorem GRoom.make {k : Nat} {A : Around} (r : GRoom (k + 1) A) (C : Addr) (us : List Value) (kw : List (Str × Value)) : GRoom k (A.under (.builtin "type.__call__" ⟨.ref C :: us, kw⟩)) := ⟨r.room.make C us kw, make_guards.trans r.grd⟩

/-- an exception as data: its class, its fields, the heap -/
abbrev XDQ := Addr → List (Str × D) → Mp → Prop
abbrev noX : XDQ := fun _ _ _ => False
def XEnd (K : PySem.W.Frag) (H F : Hp) (M : Mp) (XQ : XDQ) : XK := fun cls d H' => ∃ C dx F' M' vfs fs, cls = .ref C ∧ d = some dx ∧ F' dx = some (.xd vfs) ∧ Stp K H F M H' F' M' ∧ RepF K F' vfs fs ∧ XQ C fs M'
def QEnd (K : PySem.W.Frag) (H F : Hp) (M : Mp) (Q : DQ) : VK := fun v H' => ∃ F' M' d, Stp K H F M H' F' M' ∧ Rep K F' v d ∧ Q d M'

/-- the call of the def at f with the data ds ends as wished -/
structure TFn (P : Program) (w : World) (K : PySem.W.Frag) (mg : Str → Option Value) (base : Heap) (k : Nat) (f : Addr) (fd : FuncData) (ps : List Str) (ds : List D) (M : Mp) (Q : DQ) (XQ : XDQ := noX) : Prop where
  len : ds.length = ps.length
  run : ∀ (A : Around) (outer : List Env) (s : Shared) (H F : Hp) (args : Args) (us : List Value) (vs : List V), GRoom k A → Env0 P w K mg base A outer s H → BindsTo s fd args (ps.zip us) → Vals vs us → Good K H F M → Reps K F vs ds →
    codeAny (model P w) A (.call (.ref f) args) (CR (L2.CX P w) outer P w H s (QEnd K H F M Q) (XEnd K H F M XQ)) s
section
variable {P : Program} {w : World} {K : PySem.W.Frag} {mg : Str → Option Value} {base : Heap} {k : Nat} {f : Addr} {fd : FuncData} {ps : List Str} {ds : List D} {M : Mp} {Q : DQ} {XQ : XDQ}
theorem TFn.mono {j : Nat} (T : TFn P w K mg base j f fd ps ds M Q XQ) (h : j ≤ k) : TFn P w K mg base k f fd ps ds M Q XQ := ⟨T.len, fun A outer s H F args us vs r => T.run A outer s H F args us vs (r.mono h)⟩
theorem CE.imp {outer : List Env} {H : Hp} {s : Shared} {Q Q' : VK} {u : Value} {s' : Shared} (h : CE outer P w H s Q u s') (q : ∀ v H', Q v H' → Q' v H') : CE outer P w H s Q' u s' :=
  let ⟨v, H', a, b, c, d, e, g⟩ := h; ⟨v, H', a, b, c, d, e, q _ _ g⟩
theorem TFn.imp {Q' : DQ} (T : TFn P w K mg base k f fd ps ds M Q XQ) (h : ∀ d M', Q d M' → Q' d M') : TFn P w K mg base k f fd ps ds M Q' XQ :=
  ⟨T.len, fun A outer s H F args us vs r e b v g rp => codeAny_mono (T.run A outer s H F args us vs r e b v g rp) fun r s' hq => by
    cases r with
    | error e => exact hq
    | ok fl =>
      cases fl with
      | ret u => exact CE.imp hq fun v H' ⟨F', M', d, t, rp, q⟩ => ⟨F', M', d, t, rp, h _ _ q⟩
      | _ => exact hq⟩

/-- the slots at the entry -/
def startD (N : List Str) (ds : List D) : En := ds.map some ++ List.replicate (N.length - ds.length) none
theorem start_sim {H F : Hp} {N : List Str} {vs : List V} (g : Good K H F M) (r : Reps K F vs ds) : Sim K H F M (L2.start N vs) (startD N ds) := by
  have hl := r.length
  refine ⟨g, fun i d h => ?_, by simp [L2.start, startD, hl]⟩
  unfold startD at h
  by_cases hi : i < ds.length
  · rw [List.getElem?_append_left (by simpa using hi), List.getElem?_map] at h
    cases e : ds[i]? with
    | none => rw [e] at h; cases h
    | some d' =>
      rw [e] at h
      cases h
      obtain ⟨v, hv, rv⟩ := r.get e
      refine ⟨v, ?_, rv⟩
      unfold L2.start
      rw [List.getElem?_append_left (by simpa [hl] using hi), List.getElem?_map, hv]
      rfl
  · rw [List.getElem?_append_right (by simpa using hi), List.getElem?_replicate] at h
    split at h <;> cases h

variable {x qual : Str} {params : Arguments} {body : List Stmt} {scope : Scope} {N : List Str}
/-- THE RULE: a def by its body -/
theorem TFn.of (Fd : FunD K x qual params body scope [] [] f fd) (Sc : FnScope N ps scope) (hl : ds.length = ps.length)
    (hb : ∀ (cdv : Value) (A : Around) (outer : List Env) (s : Shared) (H F : Hp), GRoom k (A.deeper (envOfC qual scope s.heap.objs.size f cdv)) →
      WSs (cxOf (L2.CX P w) P w K mg base N qual scope f cdv A outer s H (XEnd K H F M XQ)) body (startD N ds) M { nx := fun _ M' => Q .non M', rt := Q }) :
    TFn P w K mg base (k + 1) f fd ps ds M Q XQ := by
  obtain ⟨oc, od, dV, kV, doc, pm, an, cdv, ct, osl, rfl, lk, hcd, _, _⟩ := Fd.ex
  refine ⟨hl, fun A outer s H F args us vs hr e0 hbd r g rp => ?_⟩
  have KX : K.In s.heap := e0.mod.kin.keeps fun b o e => (e0.bs b o e).1
  have lim : s.heap.NoLimit := e0.mod.nolimit.keeps fun b o e => (e0.bs b o e).1
  have hk : ∀ y ∈ ps.zip us, scope.names.lookup y.1 = some .local ∨ (scope.names.lookup y.1 = some .cell ∧ ((cellsFrom (s.heap.objs.size + 1) scope.names []).lookup y.1).isSome = true) := by
    rintro ⟨n, v⟩ hy
    rcases Sc.par n (List.of_mem_zip hy).1 with q | q
    · exact .inl q
    · exact .inr ⟨q, PySem.W.cellsFrom_some _ _ _ (.inl q)⟩
  refine codeAny_call_function hr.room.depth (KX _ _ lk) rfl Sc.co Sc.gen rfl (PySem.W.codeRec_of KX hcd) (hbd _ _ _ _ (wpAny_newFunctionEnv_cells Sc.kind hk fun env he s1 x => ?_))
  subst he
  refine ⟨lim.keeps x.toInCall.keep, codeAny_func ?_⟩
  have I : Inv (cxOf (L2.CX P w) P w K mg base N qual scope f cdv A outer s H (XEnd K H F M XQ)) [] (L2.start N vs) H s1 := inv_start Sc hr.room.hd e0 (rp.length.trans hl) r x
  refine thn ((hb cdv A outer s H F (hr.deeper _)).run [] s1 (L2.start N vs) H F I (start_sim g rp)) fun fl s' hs => ?_
  cases fl with
  | ret u =>
    obtain ⟨v, σ', H', J, rv, F', M', d, t, rp', q⟩ := hs
    exact ⟨v, H', J.os, J.bare, J.base, J.hok, rv, F', M', d, t, rp', q⟩
  | next =>
    obtain ⟨σ', H', J, F', M', ρ', t, S', q⟩ := hs
    exact ⟨.non, H', J.os, J.bare, J.base, J.hok, rfl, F', M', .non, t, .non, q⟩
  | brk =>
    obtain ⟨_, _, _, _, _, _, _, _, q⟩ := hs
    exact False.elim q
  | cont =>
    obtain ⟨_, _, _, _, _, _, _, _, q⟩ := hs
    exact False.elim q
end

/-! ### calls -/
/-- what a body has around it -/
structure Lo (X : Cx) (k : Nat) : Prop where
  room : GRoom k X.A
  calm : X.calm = true
theorem Lo.mono {X : Cx} {j k : Nat} (l : Lo X k) (h : j ≤ k) : Lo X j := ⟨l.room.mono h, l.calm⟩
theorem Lo.u64 {X : Cx} {k : Nat} (l : Lo X k) : X.A.units + 64 < cLine := l.room.room.units
theorem Lo.u65 {X : Cx} {k : Nat} (l : Lo X k) : X.A.units + 65 < cLine := by have := l.room.room.un; omega
theorem noX_cx {P : Program} {w : World} {K : PySem.W.Frag} {outer : List Env} {H F : Hp} {M : Mp} {s : Shared} {e : Value} {s' : Shared} : ¬ L2.CX P w outer H s (XEnd K H F M noX) e s' := by
  rintro ⟨a, B, H', cls, d, _, _, _, _, _, _, _, C, dx, F', M', vfs, fs, _, _, _, _, _, h⟩
  exact h
section
variable {X : Cx} {pins : Pins} {σ : SS} {H F : Hp} {M : Mp} {ρ : En} {s : Shared} {Q : DQ} {k : Nat} {f C : Addr} {fd : FuncData} {ps : List Str} {x m : Str} {p pos apos : Pos} {e o : Expr} {es : List Expr} {ds : List D}
/-- behind a call -/
theorem call_back {u : Value} {s' : Shared} (I : Inv X pins σ H s) (h : CE X.stack X.prog X.w H s (QEnd X.K H F M Q) u s') : TEnd X pins σ H F M Q u s' := by
  obtain ⟨v, H', I', r, F', M', d, t, rp, q⟩ := I.after h
  exact ⟨v, H', F', M', d, I', r, t, rp, q⟩
/-- the callee runs -/
theorem TFn.call {us : List Value} {vs : List V} (T : TFn X.prog X.w X.K X.mg X.base k f fd ps ds M Q) (hr : GRoom k X.A) (hb : Binds X.K fd ps []) (I : Inv X pins σ H s) (g : Good X.K H F M) (r : Vals vs us) (rp : Reps X.K F vs ds) :
    wpAny (model X.prog X.w) X.A (call (.ref f) us) (TEnd X pins σ H F M Q) X.xe s := by
  have hl : (us ++ []).length = ps.length := by rw [List.append_nil, ← r.length, rp.length]; exact T.len
  have b := hb s us I.kIn hl
  rw [List.append_nil] at b
  refine wpAny_call (codeAny_mono (T.run X.A X.stack s H F ⟨us, []⟩ us vs hr I.env0 b r g rp) fun r s' hq => ?_)
  cases r with
  | error e => exact absurd hq noX_cx
  | ok fl =>
    cases fl with
    | ret u => exact call_back I hq
    | next => exact False.elim hq
    | brk => exact False.elim hq
    | cont => exact False.elim hq
/-- f(e, ..), f a def of the module -/
theorem WE.call (hr : GRoom k X.A) (hm : X.mg x = some (.ref f)) (hk : PySem.W.keepIn X.K (.ref f) = true) (hb : Binds X.K fd ps []) (h : WA X (e :: es) ρ M fun xs M1 => TFn X.prog X.w X.K X.mg X.base k f fd ps xs M1 Q)
    (hg : Gl X x := by rfl) (hdb : (x == ("__debug__" : Str)) = false := by decide) (he : starEach (e :: es) X.env = (false, eval e X.env) :: starEach es X.env := by rfl) (hpl : (backTo pos (starEach es X.env)).any (·.1) = false := by rfl) :
    WE X (.Call (.Name x p) (e :: es) [] pos) ρ M Q := by
  refine ⟨fun pins s σ H F I S => ?_⟩
  refine wpAny_Call_Name_kw (ld_glob I hg hm ?_ hdb)
  refine PySem.W.callWith_K (h₀ := X.base) I.ok.mod.kin hk (thn (h.run pos pins s σ H F I S) fun us s1 ⟨vs, H1, F1, M1, ds, I1, r, t, rp, q⟩ => ⟨I1.kIn, ?_⟩) he hpl
  exact thn (q.call hr hb I1 t.good r rp) fun _ _ z => z.back t
/-- o.m(e, ..), o an instance that nobody writes -/
theorem WE.meth {pl : Sem Bool} (hr : GRoom k X.A) (c : Cls X.K C) (hm : Meth X.K C m f) (hb : Binds X.K fd ps [])
    (h : WE X o ρ M fun z M1 => ∃ fs, z = .ins C fs ∧ fs.lookup m = none ∧ WA X (e :: es) ρ M1 fun xs M2 => TFn X.prog X.w X.K X.mg X.base k f fd ps (.ins C fs :: xs) M2 Q)
    (hst : starEach (e :: es) X.env = (false, eval e X.env) :: starEach es X.env := by rfl) (hpl : (backTo pos (starEach es X.env)).any (·.1) = false := by rfl)
    (ht : eval (.Call (.Attribute o m apos) (e :: es) [] pos) X.env = (do
      let ov ← eval o X.env
      standAt apos.atName
      let (f, first) ← holding [ov] (getMethod ov m pl)
      callWith pos f first (backTo pos (starEach (e :: es) X.env)) (backToKw pos (keywordEach [] X.env))) := by rfl) :
    WE X (.Call (.Attribute o m apos) (e :: es) [] pos) ρ M Q := by
  refine ⟨fun pins s σ H F I S => ?_⟩
  refine PySem.W.methodCall_KW (pl := pl) (thn (h.run pins s σ H F I S) fun u s1 ⟨v, H1, F1, M1, d, I1, rx, t1, rp1, fs, ed, l, q⟩ => ?_) ht
  subst ed
  have rp1' := rp1
  cases rp1 with
  | ins hF rF =>
    obtain rfl : u = _ := rx
    refine getmeth_ok I1 (t1.good.sub _ _ hF) c hm (rF.none l) ?_
    refine PySem.W.callWith_K (first := [.ref _]) (h₀ := X.base) I.ok.mod.kin hm.kp (thn (q.run pos pins s1 σ H1 F1 I1 (S.step t1)) fun us s2 ⟨vs, H2, F2, M2, ds, I2, r, t2, rp, q2⟩ => ⟨I2.kIn, ?_⟩) hst hpl
    exact thn (q2.call (us := .ref _ :: us) (vs := .ref _ :: vs) hr hb I2 t2.good (.cons rfl r) (.cons (t2.rep rp1') rp)) fun _ _ z => z.back (t1.trans t2)
/-- e.f of an instance -/
theorem WE.fld {fl : Str} (h : WE X e ρ M fun z M1 => ∃ C fs d, z = .ins C fs ∧ Cls X.K C ∧ NoAttr X.K C fl ∧ fs.lookup fl = some d ∧ Q d M1) (hb : attributeBase e fl X.env (eval e X.env) = eval e X.env := by rfl) : WE X (.Attribute e fl pos) ρ M Q := by
  refine ⟨fun pins s σ H F I S => ?_⟩
  refine attr_of hb (thn (h.run pins s σ H F I S) fun u s1 ⟨v, H1, F1, M1, d, I1, rx, t1, rp, C, fs, d', ed, c, n, l, q⟩ => ?_)
  subst ed
  cases rp with
  | ins hF rF =>
    obtain rfl : u = _ := rx
    obtain ⟨v', l', rp'⟩ := rF.lookup l
    exact getattr_ok I1 (t1.good.sub _ _ hF) c n l' fun u' s2 I2 ru => ⟨v', H1, F1, M1, d', I2, ru, t1, rp', q⟩
/-- .. of one that may be written -/
theorem WE.fldM {fl : Str} (h : WE X e ρ M fun z M1 => ∃ a C fs d, z = .ref a ∧ M1 a = some (.ins C fs) ∧ Cls X.K C ∧ NoAttr X.K C fl ∧ fs.lookup fl = some d ∧ Q d M1) (hb : attributeBase e fl X.env (eval e X.env) = eval e X.env := by rfl) : WE X (.Attribute e fl pos) ρ M Q := by
  refine ⟨fun pins s σ H F I S => ?_⟩
  refine attr_of hb (thn (h.run pins s σ H F I S) fun u s1 ⟨v, H1, F1, M1, d, I1, rx, t1, rp, a, C, fs, d', ed, hM, c, n, l, q⟩ => ?_)
  subst ed
  cases rp
  obtain rfl : u = _ := rx
  obtain ⟨dx, vs, hv, rF⟩ := t1.good.ins hM
  obtain ⟨v', l', rp'⟩ := rF.lookup l
  exact getattr_ok I1 hv c n l' fun u' s2 I2 ru => ⟨v', H1, F1, M1, d', I2, ru, t1, rp', q⟩
def putD (f : Str) (v : D) : List (Str × D) → List (Str × D)
  | [] => [(f, v)]
  | (g, x) :: r => if g = f then (g, v) :: r else (g, x) :: putD f v r
theorem RepF.put {K : PySem.W.Frag} {F : Hp} {f : Str} {v : V} {d : D} (rv : Rep K F v d) : ∀ {vs : List (Str × V)} {fs : List (Str × D)}, RepF K F vs fs → RepF K F (putF f v vs) (putD f d fs)
  | _, _, .nil => .cons rv .nil
  | _, _, .cons (n := n) a r => by
    unfold putF putD
    by_cases h : n = f
    · rw [if_pos h, if_pos h]; exact .cons rv r
    · rw [if_neg h, if_neg h]; exact .cons a (RepF.put rv r)
theorem RepF.len {K : PySem.W.Frag} {F : Hp} : ∀ {vs : List (Str × V)} {fs : List (Str × D)}, RepF K F vs fs → vs.length = fs.length
  | _, _, .nil => rfl
  | _, _, .cons _ r => congrArg (· + 1) (RepF.len r)
/-- o.f = e -/
theorem WS.fld {fl : Str} {value : Expr} {E : TEs} {pos' : Pos} (h : WE X value ρ M fun d M1 => WE X o ρ M1 fun z M2 => ∃ a C fs, z = .ref a ∧ M2 a = some (.ins C fs) ∧ Cls X.K C ∧ NoAttr X.K C fl ∧ fs.length < 1000 ∧ E.nx ρ (mset M2 a (.ins C (putD fl d fs))))
    (hs : swapsWith value (some (.Attribute o fl pos')) pos.line X.env = pure false := by rfl) : WS X (.Assign [.Attribute o fl pos'] value pos) ρ M E := by
  refine ⟨fun pins s σ H F I S => ?_⟩
  refine plainObj_wpAny_Assign_Attribute (thn (h.run pins s σ H F I S) fun u s1 ⟨y, H1, F1, M1, d, I1, ry, t1, rp, q⟩ => thn (q.run pins s1 σ H1 F1 I1 (S.step t1)) fun ov s2 ⟨x, H2, F2, M2, z, I2, rx, t2, rp2, a, C, fs, ed, hM, c, n, hl, q2⟩ => ?_) hs
  subst ed
  cases rp2
  obtain rfl : ov = _ := rx
  have t := t1.trans t2
  obtain ⟨dx, vs, hv, rF⟩ := t2.good.ins hM
  have t3 := Stp.write t2.good hM (.ins (C := C) (dx := dx) (rF.put (f := fl) (t2.rep rp)))
  exact setattr_ok I2 hv c n (by rw [rF.len]; exact hl) ry fun s3 I3 => ⟨σ, _, I3, F2, _, ρ, t.trans t3, (S.step t).step t3, q2⟩
end
/-- a new thing of which nothing is told -/
theorem Stp.newO {K : PySem.W.Frag} {H F : Hp} {M : Mp} {p : Addr} {o : HO} (r : Good K H F M) (hp : H p = none) : Stp K H F M (upd H p o) F M :=
  ⟨fun b u h n => ⟨by rw [upd_ne (ne_of_none h hp)]; exact h, n⟩, Sub.refl F, fun _ _ h => .inl h, r.other (r.freeF hp) (r.free hp)⟩
section
variable {X : Cx} {pins : Pins} {σ : SS} {H F : Hp} {M : Mp} {ρ : En} {s : Shared} {Q : DQ} {k : Nat} {f C : Addr} {fd : FuncData} {ps : List Str} {x m : Str} {p pos apos : Pos} {e o : Expr} {es : List Expr} {ds : List D}
/-- C(..): its __init__ runs on a new instance, which nobody writes behind it -/
def MakeQ (C x : Addr) (Q : DQ) : DQ := fun d M2 => d = .non ∧ ∃ fs, M2 x = some (.ins C fs) ∧ Q (.ins C fs) (mdel M2 x)
theorem TFn.make {us : List Value} {vs : List V} (Mk : L2.Mk X.K C f) (hr : GRoom (k + 1) X.A) (hb : Binds X.K fd ps []) (T : ∀ x, M x = none → TFn X.prog X.w X.K X.mg X.base k f fd ps (.ref x :: ds) (mset M x (.ins C [])) (MakeQ C x Q))
    (I : Inv X pins σ H s) (g : Good X.K H F M) (r : Vals vs us) (rp : Reps X.K F vs ds) : wpAny (model X.prog X.w) X.A (PySem.call (.ref C) us) (TEnd X pins σ H F M Q) X.xe s := by
  have h1 : H (s.heap.objs.size + 1) = none := I.hok.fresh (Nat.le_succ _)
  have h0 : H s.heap.objs.size = none := I.hok.fresh (Nat.le_refl _)
  have ne : s.heap.objs.size + 1 ≠ s.heap.objs.size := Nat.succ_ne_self _
  have I2 := Inv.made (C := C) I
  have t1 := Stp.newO (o := .own (s.heap.objs.size + 1)) g h0
  have t2 := Stp.newM (p := s.heap.objs.size + 1) (o := .ins C s.heap.objs.size []) (m := .ins C []) t1.good (by rw [upd_ne ne]; exact h1) (.ins .nil)
  have t := t1.trans t2
  have T1 := T (s.heap.objs.size + 1) (g.free h1)
  have r2 : Vals (V.ref (s.heap.objs.size + 1) :: vs) (Value.ref (s.heap.objs.size + 1) :: us) := .cons rfl r
  have hl : (Value.ref (s.heap.objs.size + 1) :: us ++ []).length = ps.length := by
    have e := T1.len
    rw [List.append_nil, ← r2.length, List.length_cons, rp.length, ← e, List.length_cons]
  have b := hb _ (Value.ref (s.heap.objs.size + 1) :: us) I2.kIn hl
  rw [List.append_nil] at b
  refine wpAny_call (make_map (f := f) I.kIn Mk.makes Mk.init (beq_iff_eq.mp Mk.fn) (codeAny_mono (T1.run _ X.stack _ _ F ⟨Value.ref (s.heap.objs.size + 1) :: us, []⟩ _ _ (hr.make C us []) (I2.env0.make C us []) b r2 t.good (.cons (.ref _) (t.reps rp))) fun r s' hq => ?_))
  cases r with
  | error e => exact absurd hq noX_cx
  | ok fl =>
    cases fl with
    | ret u =>
      obtain ⟨v, H', I3, rv, F', M', d, t3, rp3, ed, fs, hM, q⟩ := I2.after hq
      subst ed
      cases rp3
      obtain ⟨dx, vs', hv, rF⟩ := t3.good.ins hM
      have t4 := Stp.freeze t3.good hM hv
      exact ⟨rv, ⟨V.ref (s.heap.objs.size + 1), H', _, _, _, I3, rfl, (t.trans t3).trans t4, .ins upd_same (rF.mono t4.sub), q⟩⟩
    | next => exact False.elim hq
    | brk => exact False.elim hq
    | cont => exact False.elim hq
theorem WE.make (Mk : L2.Mk X.K C f) (hr : GRoom (k + 1) X.A) (hm : X.mg x = some (.ref C)) (hb : Binds X.K fd ps [])
    (h : WA X (e :: es) ρ M fun xs M1 => ∀ z, M1 z = none → TFn X.prog X.w X.K X.mg X.base k f fd ps (.ref z :: xs) (mset M1 z (.ins C [])) (MakeQ C z Q))
    (hg : Gl X x := by rfl) (hdb : (x == ("__debug__" : Str)) = false := by decide) (he : starEach (e :: es) X.env = (false, eval e X.env) :: starEach es X.env := by rfl) (hpl : (backTo pos (starEach es X.env)).any (·.1) = false := by rfl) :
    WE X (.Call (.Name x p) (e :: es) [] pos) ρ M Q := by
  refine ⟨fun pins s σ H F I S => ?_⟩
  refine wpAny_Call_Name_kw (ld_glob I hg hm ?_ hdb)
  refine PySem.W.callWith_K (h₀ := X.base) I.ok.mod.kin Mk.kp (thn (h.run pos pins s σ H F I S) fun us s1 ⟨vs, H1, F1, M1, ds, I1, r, t, rp, q⟩ => ⟨I1.kIn, ?_⟩) he hpl
  exact thn (TFn.make Mk hr hb q I1 t.good r rp) fun _ _ z => z.back t
end
end TL
end
section
set_option maxRecDepth 100000
/-! TK: calls by keywords; own ==, !=, len; == of tuples that hold instances. -/
namespace TL
open PySem PySem.Spec PyProof.Rows L2

/-- a built-in type by its name -/
theorem WE.ty {X : Cx} {M : Mp} {ρ : En} {Q : DQ} {x : Str} {n : String} {pos : Pos} (hm : X.mg x = none) (hv : bootBuiltins x = some (.type n)) (h : Q (.ty n) M) (hg : Gl X x := by rfl) (hn : x ≠ "__name__" := by decide) (hd : (x == ("__debug__" : Str)) = false := by decide) :
    WE X (.Name x pos) ρ M Q := .pe (pe_bltn (v := .ty n) hg hm hv rfl hn hd) fun σ H F S => ⟨F, M, _, Stp.refl S.good, .ty n, h⟩
/-- a class of the module, a def: an address -/
theorem WE.cls {X : Cx} {M : Mp} {ρ : En} {Q : DQ} {x : Str} {a : Addr} {pos : Pos} (hm : X.mg x = some (.ref a)) (h : Q (.ref a) M) (hg : Gl X x := by rfl) (hd : (x == ("__debug__" : Str)) = false := by decide) :
    WE X (.Name x pos) ρ M Q := .pe (pe_glob hg hm (v := .ref a) rfl hd) fun σ H F S => ⟨F, M, _, Stp.refl S.good, .ref a, h⟩

/-! ### keywords -/
/-- the keywords' values -/
structure WK (X : Cx) (kws : List Keyword) (ρ : En) (M : Mp) (Q : List D → Mp → Prop) : Prop where
  run : ∀ (pos : Pos) (pins : Pins) (s : Shared) (σ : SS) (H F : Hp), Inv X pins σ H s → Sim X.K H F M σ ρ → wpAny (model X.prog X.w) X.A (evalAll ((backToKw pos (keywordEach kws X.env)).map (·.2))) (AEnd X pins σ H F M Q) X.xe s
def turn {α : Type} (b : Bool) (l : List α) : List α := if b = true then l.reverse else l
theorem turn_len {α : Type} (b : Bool) (l : List α) : (turn b l).length = l.length := by cases b <;> simp [turn]
theorem Vals.turn {vs : List V} {us : List Value} (b : Bool) (h : Vals vs us) : Vals (TL.turn b vs) (TL.turn b us) := by
  cases b with
  | false => exact h
  | true =>
    show Vals vs.reverse us.reverse
    induction h with
    | nil => exact .nil
    | cons r _ ih => rw [List.reverse_cons, List.reverse_cons]; exact ih.append (.cons r .nil)
theorem Reps.turn {K : PySem.W.Frag} {F : Hp} {vs : List V} {ds : List D} (b : Bool) (h : Reps K F vs ds) : Reps K F (TL.turn b vs) (TL.turn b ds) := by
  cases b with
  | false => exact h
  | true => exact h.reverse
/-- the keywords ks name all parameters, in their order or turned about -/
def KwB (fd : FuncData) (ps ks : List Str) (b : Bool) : Prop := ∀ (s : Shared) (ws : List Value), ws.length = ks.length → BindsTo s fd ⟨[], ks.zip ws⟩ (ps.zip (turn b ws))
section
variable {X : Cx} {pins : Pins} {σ : SS} {H F : Hp} {M : Mp} {ρ : En} {s : Shared} {Q : DQ} {QA : List D → Mp → Prop} {k : Nat} {f C : Addr} {fd : FuncData} {ps ks : List Str} {x m : Str} {p pos kpos : Pos} {e o : Expr} {kws : List Keyword} {ds : List D} {b : Bool} {nm : Option Str}
theorem WK.nil (h : QA [] M) : WK X [] ρ M QA := ⟨fun _ _ _ _ H F I S => wpAny_evalAll_nil ⟨[], H, F, M, [], I, .nil, Stp.refl S.good, .nil, h⟩⟩
theorem WK.cons (h : WE X e ρ M fun x M1 => WK X kws ρ M1 fun xs M2 => QA (x :: xs) M2) : WK X (⟨nm, e, kpos⟩ :: kws) ρ M QA := by
  refine ⟨fun pos pins s σ H F I S => ?_⟩
  show wpAny _ _ (evalAll ((do let v ← eval e X.env; standAt pos; pure v) :: (backToKw pos (keywordEach kws X.env)).map (·.2))) _ _ s
  refine wpAny_evalAll_cons (wpAny_bind (thn (h.run pins s σ H F I S) fun u s1 ⟨x, H1, F1, M1, d, I1, r1, t1, p1, q1⟩ => wpAny_bind (wpAny_standAt (wpAny_pure ?_))))
  exact thn (q1.run pos pins s1 σ H1 F1 I1 (S.step t1)) fun us s2 ⟨xs, H2, F2, M2, ds, I2, r2, t2, p2, q2⟩ => ⟨x :: xs, H2, F2, M2, d :: ds, I2, .cons r1 r2, t1.trans t2, .cons (t2.rep p1) p2, q2⟩
theorem WE.callKw (b : Bool) (hr : GRoom k X.A) (hm : X.mg x = some (.ref f)) (hk : PySem.W.keepIn X.K (.ref f) = true) (hb : KwB fd ps ks b) (hl : ps.length = ks.length) (h : WK X kws ρ M fun xs M1 => TFn X.prog X.w X.K X.mg X.base k f fd ps (turn b xs) M1 Q)
    (hg : Gl X x := by rfl) (hall : (backToKw pos (keywordEach kws X.env)).all (·.1.isSome) = true := by rfl) (hks : (backToKw pos (keywordEach kws X.env)).filterMap (·.1) = ks := by rfl) (hdb : (x == ("__debug__" : Str)) = false := by decide)
    (hpl : ((backTo pos (starEach [] X.env)).any (·.1) || (backToKw pos (keywordEach kws X.env)).any (·.1.isNone)) = false := by rfl) : WE X (.Call (.Name x p) [] kws pos) ρ M Q := by
  refine ⟨fun pins s σ H F I S => ?_⟩
  refine wpAny_Call_Name_kw (ld_glob I hg hm ?_ hdb)
  refine PySem.W.callWith_KW0 (h₀ := X.base) I.ok.mod.kin hk hall ?_ hpl
  refine thn (h.run pos pins s σ H F I S) fun ws s1 ⟨zs, H1, F1, M1, ds, I1, rz, t, rp, q⟩ => ⟨I1.kIn, ?_⟩
  rw [hks]
  have hw : ws.length = ks.length := by rw [← rz.length, rp.length, ← turn_len b ds, q.len, hl]
  refine wpAny_call (codeAny_mono (q.run X.A X.stack s1 H1 F1 ⟨[], ks.zip ws⟩ _ _ hr I1.env0 (hb s1 ws hw) (Vals.turn b rz) t.good (Reps.turn b rp)) fun r s' hq => ?_)
  cases r with
  | error e => exact absurd hq noX_cx
  | ok fl =>
    cases fl with
    | ret u => exact (call_back I1 hq).back t
    | next => exact False.elim hq
    | brk => exact False.elim hq
    | cont => exact False.elim hq
end

/-! ### own len, ==, != -/
section
variable {X : Cx} {pins : Pins} {σ : SS} {H F : Hp} {M : Mp} {ρ : En} {s : Shared} {Q : DQ} {k : Nat} {f C : Addr} {fd : FuncData} {ps : List Str} {fs gs : List (Str × D)}
theorem kin_at {K : PySem.W.Frag} {F : Hp} {v : V} (h : Rep K F v (.ins C fs)) : ∃ a dx vs, v = .ref a ∧ F a = some (.ins C dx vs) := by
  cases h with
  | ins h _ => exact ⟨_, _, _, rfl, h⟩
theorem inst_at (I : Inv X pins σ H s) {a C dx : Addr} {vs : List (Str × V)} (h : H a = some (.ins C dx vs)) : ∃ od, PySem.W.InstAt s.heap a (PySem.W.instObj C dx) C (some od) := by
  obtain ⟨mA, O, _⟩ := ins_get I.hok h
  obtain ⟨od, J, _⟩ := O.look
  exact ⟨od, J⟩
theorem VC.lenOwn (hr : GRoom (k + 1) X.A) (hs : PySem.W.findIn X.K (.ref C) "__len__" = some (some (.ref f))) (hf : PySem.W.isFn X.K (.ref f) = true) (hb : Binds X.K fd ps [])
    (T : TFn X.prog X.w X.K X.mg X.base k f fd ps [.ins C fs] M fun d M' => ∃ n : Nat, d = .int n ∧ n < 2 ^ 62 ∧ Q (.int n) M') : VC X (.builtin "len") [.ins C fs] M Q := by
  intro pins s σ H F vs us I R r1 p1
  cases p1 with
  | cons p1 p2 =>
    cases p2
    cases r1 with
    | cons r1 r2 =>
      cases r2
      obtain ⟨a, dx, vs, rfl, hF⟩ := kin_at p1
      cases r1
      obtain ⟨od, J⟩ := inst_at I (R.sub _ _ hF)
      obtain ⟨m, hFr⟩ := I.fr
      refine PySem.W.len_K hFr I.ok.mod.kin J hs hf ?_
      have e0 : Env0 X.prog X.w X.K X.mg X.base X.A.in1 X.stack s H := I.env0.in1
      have b := hb s [.ref a] I.kIn (by have := T.len; simpa using this)
      refine wpAny_call (codeAny_mono (T.run X.A.in1 X.stack s H F ⟨[.ref a], []⟩ [.ref a] [.ref a] hr.in1 e0 (by simpa using b) (.cons rfl .nil) R (.cons p1 .nil)) fun r s' hq => ?_)
      cases r with
      | error e => exact absurd hq noX_cx
      | ok fl =>
        cases fl with
        | ret w =>
          obtain ⟨v, H', F', M', d, I', rv, t, rp, n, ed, hn, q⟩ := call_back I hq
          subst ed
          cases rp
          obtain ⟨tk, rfl⟩ := rv
          refine ⟨⟨by omega, by omega⟩, .int n, H', F', M', _, I'.tok _, ⟨_, rfl⟩, t, .int _, q⟩
        | next => exact False.elim hq
        | brk => exact False.elim hq
        | cont => exact False.elim hq
/-- an own method of two arguments, called below -/
theorem own_call {A : Around} {a : Addr} {Q' : Value → Shared → Prop} {d2 : D} (hr : GRoom k A) (hfr : A.frames = X.A.frames) (hb : Binds X.K fd ps []) (T : TFn X.prog X.w X.K X.mg X.base k f fd ps [.ins C fs, d2] M Q)
    (I : Inv X pins σ H s) (R : Good X.K H F M) (p1 : Rep X.K F (.ref a) (.ins C fs)) {v2 : V} {u2 : Value} (r2 : RelV v2 u2) (p2 : Rep X.K F v2 d2) (h : ∀ u s', TEnd X pins σ H F M Q u s' → Q' u s') :
    wpAny (model X.prog X.w) A (call (.ref f) [.ref a, u2]) Q' X.xe s := by
  have e := I.env0
  have e0 : Env0 X.prog X.w X.K X.mg X.base A X.stack s H := ⟨by rw [hfr]; exact e.frames, e.mod, e.bs, e.bsz, e.funs, e.frf, e.hok, e.bare⟩
  have b := hb s [.ref a, u2] I.kIn (by have := T.len; simpa using this)
  refine wpAny_call (codeAny_mono (T.run A X.stack s H F ⟨[.ref a, u2], []⟩ [.ref a, u2] [.ref a, v2] hr e0 (by simpa using b) (.cons rfl (.cons r2 .nil)) R (.cons p1 (.cons p2 .nil))) fun r s' hq => ?_)
  cases r with
  | error e => exact absurd hq noX_cx
  | ok fl =>
    cases fl with
    | ret w => exact h _ _ (call_back I hq)
    | next => exact False.elim hq
    | brk => exact False.elim hq
    | cont => exact False.elim hq
/-- x == y by the class's own __eq__ -/
theorem VO.eqOwn (hr : GRoom k X.A) (hs : PySem.W.findIn X.K (.ref C) "__eq__" = some (some (.ref f))) (hf : PySem.W.isFn X.K (.ref f) = true) (hb : Binds X.K fd ps [])
    (T : TFn X.prog X.w X.K X.mg X.base k f fd ps [.ins C fs, .ins C gs] M fun d M' => ∃ b : Bool, d = .bl b ∧ Q (.bl b) M') : VO X (compareOp .Eq) (.ins C fs) (.ins C gs) M Q := by
  intro pins s σ H F v1 v2 u1 u2 I R r1 r2 p1 p2
  obtain ⟨a, dx, vs, rfl, hF⟩ := kin_at p1
  obtain ⟨b, dy, ws, rfl, hG⟩ := kin_at p2
  cases r1
  cases r2
  obtain ⟨od, J⟩ := inst_at I (R.sub _ _ hF)
  obtain ⟨od', J'⟩ := inst_at I (R.sub _ _ hG)
  obtain ⟨m, hFr⟩ := I.fr
  refine PySem.W.cmp_ofEq (PySem.W.cmp_K (op := .Eq) (tb := .ref C) hr.room.units0 hFr I.ok.mod.kin J J'.type (by simp [PySem.W.notFirst]) hs hf ?_)
  refine own_call hr rfl hb T I R p1 (v2 := .ref b) rfl p2 fun u s' h => ?_
  obtain ⟨v, H', F', M', d, I', rv, t, rp, c, ed, q⟩ := h
  subst ed
  cases rp
  cases rv
  exact ⟨.bl c, H', F', M', _, I', rfl, t, .bl c, q⟩
/-- what an instance's class must have, for != by its own __eq__ -/
structure NeC (K : PySem.W.Frag) (C g : Addr) : Prop where
  eq : PySem.W.findIn K (.ref C) "__eq__" = some (some (.ref g))
  fn : PySem.W.isFn K (.ref g) = true
  ne : PySem.W.findIn K (.ref C) "__ne__" = some (some (.builtin "object.__ne__"))
  obj : PySem.W.mroIn K C (.type "object") = some true
theorem ne_body {A : Around} {E : Value → Shared → Prop} {s : Shared} {a b C g dx : Addr} {od : Option Obj} {Q : Fin → Shared → Prop} {P : Program} {w : World} {K : PySem.W.Frag} (X : K.In s.heap) (I : PySem.W.InstAt s.heap a (PySem.W.instObj C dx) C od) (N : NeC K C g)
    (hu : A.units < cLine) (h : wpAny (model P w) A (call (.ref g) [.ref a, .ref b]) (fun v s' => ∃ c, v = .bool c ∧ Q (.done (.ret (.bool (!c)))) s') E s) : wpAny (model P w) A (Builtin.«object.__ne__» ⟨[.ref a, .ref b], []⟩) Q E s := by
  unfold Builtin.«object.__ne__»
  repeat (first
    | with_reducible refine wpAny_cRoomFor hu ?_
    | (refine wpAny_bind (m := callSpecialIfBound? (.ref a) (Str.ofString "__eq__") [.ref b])
        (PySem.W.ifBound_K X I N.eq N.fn (wpAny_mono h (fun r s' hr => by
          obtain ⟨c, e, hq⟩ := hr
          subst e
          repeat (first | exact hq | exact wpAny_pure hq | exact wpAny_truthy_bool hq | (refine wpAny_bind (m := truthy (.bool _)) (wpAny_truthy_bool ?_)) | wp_step)) fun _ _ e => e)))
    | wp_step)
theorem ne_try {A : Around} {E : Value → Shared → Prop} {s : Shared} {a b C g dx : Addr} {od : Option Obj} {Q : Option Value → Shared → Prop} {P : Program} {w : World} {K : PySem.W.Frag} (X : K.In s.heap) (I : PySem.W.InstAt s.heap a (PySem.W.instObj C dx) C od) (N : NeC K C g)
    (hu : A.units + 1 < cLine) (h : wpAny (model P w) A.in1 (call (.ref g) [.ref a, .ref b]) (fun v s' => ∃ c, v = .bool c ∧ Q (some (.bool (!c))) s') E s) : wpAny (model P w) A (tryCompare (.ref a) "__ne__" (.ref b)) Q E s := by
  have hi : PySem.W.Looks (model P w) s.heap (isInstance (.ref a) (.type "object")) true := I.type.andThen (PySem.W.looks_mroIn X N.obj)
  have core : wpAny (model P w) A (call (.builtin "object.__ne__") [.ref a, .ref b]) (fun v s' => ∃ c, v = .bool c ∧ Q (some (.bool c)) s') E s := by
    refine wpAny_call (codeAny_call_builtin F.cmp_object.ne.plain F.cmpEntry_ne (PySem.W.check_slot F.cmpKind_ne F.cmpSplit_ne hi (F.cmpArgs_ne _ _) (ne_body X I N hu (thn h fun v s' hv => ?_))))
    obtain ⟨c, e, q⟩ := hv
    exact ⟨c, e, !c, rfl, q⟩
  simp only [tryCompare, callSpecialIfBound?, bindSpecialIfBound?]
  have fin : wpAny (model P w) A (call (.builtin "object.__ne__") ([.ref a] ++ [.ref b]) >>= fun v => pure (some v)) (fun r s' => ∃ c, r = some (.bool c) ∧ Q (some (.bool c)) s') E s :=
    wpAny_bind (thn core fun v s' ⟨c, e, q⟩ => by subst e; exact wpAny_pure ⟨c, rfl, q⟩)
  refine wpAny_bind (wpAny_holding (wpAny_bind (wpAny_bind (wpAny_bind (I.type.here ((PySem.W.looks_findIn X N.ne).here ?_))))))
  refine wpAny_bind (wpAny_askSetting (wpAny_ite ?_))
  split
  · exact wpAny_bind (wpAny_of_eq (F.cmp_object.ne.bind _) (wpAny_pure (thn fin fun r s' z => by obtain ⟨c, e, q⟩ := z; subst e; exact wpAny_pure q)))
  · exact wpAny_tryCatch (wpAny_bind (wpAny_of_eq (F.cmp_object.ne.bind _) (wpAny_pure (thn fin fun r s' z => by obtain ⟨c, e, q⟩ := z; subst e; exact wpAny_pure q))))
/-- x != y by the class's own __eq__ -/
theorem VO.neOwn {g : Addr} (hr : GRoom (k + 1) X.A) (N : NeC X.K C g) (hb : Binds X.K fd ps [])
    (T : TFn X.prog X.w X.K X.mg X.base k g fd ps [.ins C fs, .ins C gs] M fun d M' => ∃ b : Bool, d = .bl b ∧ Q (.bl (!b)) M') : VO X (compareOp .NotEq) (.ins C fs) (.ins C gs) M Q := by
  intro pins s σ H F v1 v2 u1 u2 I R r1 r2 p1 p2
  obtain ⟨a, dx, vs, rfl, hF⟩ := kin_at p1
  obtain ⟨b, dy, ws, rfl, hG⟩ := kin_at p2
  cases r1
  cases r2
  obtain ⟨od, J⟩ := inst_at I (R.sub _ _ hF)
  obtain ⟨od', J'⟩ := inst_at I (R.sub _ _ hG)
  refine PySem.W.cmp_ofNotEq ?_
  unfold richCompare
  simp only [oneThing_ref]
  refine wpAny_holding (wpAny_bind (wpAny_cRoomFor hr.room.units0 (wpAny_bind (J.type.here (wpAny_bind (J'.type.here ?_))))))
  rw [show (Value.ref C != Value.ref C) = false from by simp]
  simp only [Bool.false_eq_true, if_false]
  refine wpAny_bind (wpAny_pure ?_)
  simp only [Bool.false_eq_true, if_false]
  refine wpAny_bind (ne_try I.kIn J N (by have := hr.room.un; omega) (own_call hr.in1 rfl hb T I R p1 (v2 := .ref b) rfl p2 fun u s' h => ?_))
  obtain ⟨v, H', F', M', d, I', rv, t, rp, c, ed, q⟩ := h
  subst ed
  cases rp
  cases rv
  exact ⟨c, rfl, wpAny_pure ⟨.bl (!c), H', F', M', _, I', rfl, t, .bl _, q⟩⟩
/-- == inside a built-in gives True, and the data of the heap stay -/
def VB (X : Cx) (A : Around) (x y : D) (M : Mp) : Prop :=
  ∀ (pins : Pins) (s : Shared) (σ : SS) (H F : Hp) (v1 v2 : V) (u1 u2 : Value), Inv X pins σ H s → Good X.K H F M → RelV v1 u1 → RelV v2 u2 → Rep X.K F v1 x → Rep X.K F v2 y →
    wpAny (model X.prog X.w) A (eqBool u1 u2) (fun r s' => r = true ∧ ∃ H' F', Inv X pins σ H' s' ∧ Stp X.K H F M H' F' M) X.xe s
theorem VB.flat {A : Around} {x y : D} (hx : flatD x = true) (hy : flatD y = true) (he : eqD x y = true) : VB X A x y M := by
  intro pins s σ H F v1 v2 u1 u2 I R r1 r2 p1 p2
  have q := eqAt_V (A := A) (s := s) r1 r2 (flat_v p1 hx) (flat_v p2 hy)
  rw [flat_eq p1 p2 hx hy, he] at q
  exact q X.prog X.w X.xe _ ⟨rfl, H, F, I, Stp.refl R⟩
theorem VB.ins {A : Around} {g : Addr} (hr : GRoom k A) (hfr : A.frames = X.A.frames) (hs : PySem.W.findIn X.K (.ref C) "__eq__" = some (some (.ref g))) (hf : PySem.W.isFn X.K (.ref g) = true) (hb : Binds X.K fd ps [])
    (T : TFn X.prog X.w X.K X.mg X.base k g fd ps [.ins C fs, .ins C gs] M fun d M' => d = .bl true ∧ M' = M) : VB X A (.ins C fs) (.ins C gs) M := by
  intro pins s σ H F v1 v2 u1 u2 I R r1 r2 p1 p2
  obtain ⟨a, dx, vs, rfl, hF⟩ := kin_at p1
  obtain ⟨b, dy, ws, rfl, hG⟩ := kin_at p2
  cases r1
  cases r2
  obtain ⟨od, J⟩ := inst_at I (R.sub _ _ hF)
  obtain ⟨od', J'⟩ := inst_at I (R.sub _ _ hG)
  obtain ⟨m, hFr⟩ := I.fr
  by_cases hab : a = b
  · subst hab
    exact (SeqAt.EqAt.same (A := A) (s := s) (Value.ref a)) X.prog X.w X.xe _ ⟨rfl, H, F, I, Stp.refl R⟩
  · have key : wpAny (model X.prog X.w) A (richCompare .Eq (.ref a) (.ref b)) (fun v s' => ∃ r, v = .bool r ∧ (r = true ∧ ∃ H' F', Inv X pins σ H' s' ∧ Stp X.K H F M H' F' M)) X.xe s := by
      refine (PySem.W.cmp_K (op := .Eq) (tb := .ref C) hr.room.units0 hFr I.ok.mod.kin J J'.type (by simp [PySem.W.notFirst]) hs hf (own_call hr hfr hb T I R p1 (v2 := .ref b) rfl p2 fun u s' h => ?_))
      obtain ⟨v, H', F', M', d, I', rv, t, rp, ed, em⟩ := h
      subst ed em
      cases rp
      cases rv
      exact ⟨true, rfl, rfl, H', F', I', t⟩
    exact GQ.eqBool_refG hab key
/-- (x, x2) == (y, y2), all equal -/
theorem VO.eqTup2 {x x2 y y2 : D} (hr : GRoom k X.A) (h1 : VB X X.A.in1 x y M) (h2 : VB X X.A.in1 x2 y2 M) (h : Q (.bl true) M) : VO X (compareOp .Eq) (.tup [x, x2]) (.tup [y, y2]) M Q := by
  intro pins s σ H F v1 v2 u1 u2 I R r1 r2 p1 p2
  cases p1 with
  | @tup a va _ q1 p1 =>
    cases p2 with
    | @tup b vb _ q2 p2 =>
      cases r1
      cases r2
      obtain ⟨its, w1, e1, z1⟩ := I.tuple (R.sub.sqT q1)
      obtain ⟨its2, w2, e2, z2⟩ := I.tuple (R.sub.sqT q2)
      cases p1 with
      | cons a1 p1 =>
        cases p1 with
        | cons a2 p1 =>
          cases p1
          cases p2 with
          | cons b1 p2 =>
            cases p2 with
            | cons b2 p2 =>
              cases p2
              cases w1 with
              | cons r1 w1 =>
                cases w1 with
                | cons r2 w1 =>
                  cases w1
                  cases w2 with
                  | cons r3 w2 =>
                    cases w2 with
                    | cons r4 w2 =>
                      cases w2
                      refine PySem.W.cmp_ofEq (GQ.rc_tupG (by exact rfl) hr.room.units0 (fun _ s' => ∃ H' F', Inv X pins σ H' s' ∧ Stp X.K H F M H' F' M) e1 e2 (fun i k1 k2 s' l => ?_) (fun s' l => ?_) ⟨H, F, I, Stp.refl R⟩)
                      · obtain ⟨H', F', I', t⟩ := l
                        have k1' : i < 2 := k1
                        match i, k1' with
                        | 0, _ => exact thn (h1 pins s' σ H' F' _ _ _ _ I' t.good r1 r3 (t.rep a1) (t.rep b1)) fun r s2 ⟨e, H2, F2, I2, t2⟩ => ⟨e, H2, F2, I2, t.trans t2⟩
                        | 1, _ => exact thn (h2 pins s' σ H' F' _ _ _ _ I' t.good r2 r4 (t.rep a2) (t.rep b2)) fun r s2 ⟨e, H2, F2, I2, t2⟩ => ⟨e, H2, F2, I2, t.trans t2⟩
                      · obtain ⟨H', F', I', t⟩ := l
                        exact ⟨.bl true, H', F', M, _, I', rfl, t, .bl true, h⟩
end
end TL
end
section
set_option maxRecDepth 100000
set_option maxHeartbeats 2000000
/-! TX: exceptions of own classes over Exception, whose __init__ says super().__init__(x); self.x = x. -/
namespace TL
open PySem PySem.Spec PyProof.Rows L2
open PySem.W (kxs_mw)

abbrev exB : List Value := [.type "Exception", .type "BaseException", .type "object"]
/-- that __init__'s text -/
def badBody (fl : Str) (p0 p1 p2 p3 p4 p5 p6 p7 p8 p9 : Pos) : List Stmt :=
  [.Expr (.Call (.Attribute (.Call (.Name "super" p0) [] [] p1) "__init__" p2) [.Name fl p3] [] p4) p5, .Assign [.Attribute (.Name "self" p6) fl p7] (.Name fl p8) p9]
/-- its scope -/
def badScope (fl : Str) : Scope := { kind := .function, names := [("self", .local), (fl, .local), ("__class__", .free), ("super", .globalImplicit)], isGenerator := false, isCoroutine := false, more := [] }

/-- what the written part says of such a class -/
structure BadI (P : Program) (K : PySem.W.Frag) (C fI : Addr) (fl : Str) (fd : FuncData) : Prop where
  cls : PySem.W.excInitIn K C exB "Exception.__new__" = true
  cdt : ∃ cd, PySem.W.clsIn K C = some cd ∧ cd.hasDict = true ∧ PySem.W.excTail exB cd.mro = true
  sa : PySem.W.findIn K (.ref C) "__setattr__" = some (some (.builtin "object.__setattr__"))
  exC : PySem.W.subIn K (.ref C) (.type "BaseException") = some true
  exE : PySem.W.subIn K (.ref C) (.type "Exception") = some true
  exO : PySem.W.mroIn K C (.type "object") = some true
  own : PySem.W.mroIn K C (.ref C) = some true
  tyC : PySem.W.typeIn K (.ref C) = some (.type "type")
  kC : PySem.W.keepIn K (.ref C) = true
  ini : PySem.W.findIn K (.ref C) "__init__" = some (some (.ref fI))
  tI : PySem.W.typeIn K (.ref fI) = some (.type "function")
  no : PySem.W.findIn K (.ref C) fl = some none
  sup : PySem.W.ks_superIn K C C "__init__" = some (some (.builtin "Exception.__init__"))
  opq : PySem.W.nsIn K cStatics "thirdparty.any" = some none
  fn : ∃ (q : Str) (p0 p1 p2 p3 p4 p5 p6 p7 p8 p9 : Pos) (ps : Arguments) (dV kV doc pm ct oc cl ccl : Value) (an od cld cdd : Option Addr) (cda cc : Addr) (osl csl ccs : Array (Option Value)) (vs : Array Value) (file : Str) (tf : Tok),
    fd = PySem.W.fnX "__init__" q ps (badBody fl p0 p1 p2 p3 p4 p5 p6 p7 p8 p9) (badScope fl) [("__class__", cc)] dV kV doc pm an (.ref cda) ct ∧ (ps.posonlyargs ++ ps.args).head?.map (·.arg) = some ("self" : Str) ∧ K.lookup fI = some ⟨oc, od, .func fd, osl⟩ ∧
    PySem.W.codeIn K (.ref cda) q = true ∧ K.lookup cc = some ⟨cl, cld, .cell (some (.ref C)), csl⟩ ∧ K.lookup cda = some ⟨ccl, cdd, .fields vs, ccs⟩ ∧ vs[2]? = some (.str file tf) ∧ ((P.main.file : Str) == file) = true ∧ (p2.endLine == p4.line) = true ∧ (P.main.scope.names.lookup ("super" : Str)).isSome = false

section
open Builtin Builtin.ObjectAttr PySem.W PySem.Calls
variable {P : Program} {w : World} {A : Around} {E : Value → Shared → Prop} {R : Result → Shared → Prop} {hp : Heap} {g : Array GenState} {dr : Drawn} {t : Nat} {os : OsState} {K : PySem.W.Frag}
/-- self.f = v, its first field -/
theorem bad_store {name : Str} {tk : Tok} {v : Value} {x C : Addr} {fv : Array Value} {cd : ClassData} (kin : K.In hp) (ox : hp.get? x = some { cls := .ref C, data := .fields fv }) (ecd : clsIn K C = some cd) (em : excTail exB cd.mro = true)
    (eh : cd.hasDict = true) (eo : mroIn K C (.type "object") = some true) (ea : findIn K (.ref C) name = some none)
    (hq : ∀ h' tk' dx, (∀ b o, b ≠ x → hp.get? b = some o → h'.get? b = some o) → hp.objs.size ≤ dx → dx ≠ x → h'.get? x = some { cls := .ref C, dict := some dx, data := .fields fv } → h'.Ns1 dx (fun y => if y = name then some v else none) →
      R (.ok (.ret .none)) ⟨h', g, dr, tk', os⟩) : codeAny (model P w) A (.call (.builtin "object.__setattr__") ⟨[.ref x, .str name tk, v], []⟩) R ⟨hp, g, dr, t, os⟩ := by
  have at_ : InstAt hp x { cls := .ref C, data := .fields fv } C none := ⟨ox, rfl, rfl, trivial⟩
  have sf := F.store_object
  have old : x ≠ hp.objs.size := Nat.ne_of_lt (Heap.lt_size ox)
  have hsub : Looks (model P w) hp (isInstance (.ref x) (.type "object")) true := at_.type.andThen (looks_mroIn kin eo)
  refine codeAny_call_builtin sf.slot.plain sf.entry (@check_slot (model P w) _ _ ⟨hp, g, dr, t, os⟩ "object.__setattr__" "object" "__setattr__" (.ref x) [.str name tk, v] [] _ sf.kind sf.split hsub (sf.args (.ref x) (.str name tk) v) ?_)
  have look2 : Looks (model P w) hp (mroOf (.ref C)) cd.mro := (looks_clsIn kin ecd).andThen .now
  have look3 : Looks (model P w) hp (storeTaker? none) none := .now
  have look4 : Looks (model P w) hp (classData C) cd := looks_clsIn kin ecd
  rw [osa_eq, refuse_eq]
  refine wpAny_bind (wpAny_bind (at_.type.at (wpAny_bind (look2.at ?_))))
  rw [excTail_pass _ (F.store_Exception.passes _) _ em]
  refine wpAny_pure (wpAny_bind (at_.type.at (wpAny_bind ((looks_findIn kin ea).at (wpAny_bind (look3.at ?_))))))
  show wpAny _ _ (storeInOwnDict (.ref x) (.ref C) (.str name tk) name v false) _ _ _
  obtain ⟨nm, bs, mro, ns, qn, hd, sn, sb, ab, col, del⟩ := cd
  dsimp only at eh
  subst eh
  unfold storeInOwnDict ownDictForStores
  repeat (first
    | with_reducible refine PySem.HandSPX.store_in_new ?_ ?_
    | with_reducible refine wpAny_loadPart_at ox ?_
    | with_reducible refine look4.at ?_
    | wp_step)
  · exact ⟨_, #[], _, (Heap.get?_update_ne _ _ _ _ old.symm).trans (Heap.get?_push_at rfl rfl), rfl, fun e he => absurd he (by simp), fun _ => rfl⟩
  · intro h' tk' hn' sb'
    have o2 : (hp.push { cls := .type "dict", data := .dict #[] }).get? x = some { cls := .ref C, data := .fields fv } := Heap.get?_push_of_some _ ox
    refine hq h' tk' hp.objs.size (fun b o hb ho => ?_) (Nat.le_refl _) old.symm ?_ hn'
    · exact (sb'.2 b (Nat.ne_of_lt (Heap.lt_size ho))).trans ((Heap.get?_update_ne _ _ _ _ hb).trans (Heap.get?_push_of_some _ ho))
    · exact (sb'.2 x old).trans (Heap.get?_update_self _ o2 rfl)

theorem bad_call {M : Model} {c : Code} {env : Env} {s : Shared} {o e : Expr} {name : Str} {apos pos : Pos} {Q : Value → Shared → Prop} (hline : (apos.endLine == pos.line) = true) (hf : methodCallForm 1 (backTo pos (starEach [e] env)) [] = true)
    (h : ∀ pl, PySem.wpAt M A c (attributeBase o name env (eval o env)) (fun ov s₁ => wpAny M A (getMethod ov name pl) (fun fx s₂ => wpAny M A (callWith pos fx.1 fx.2 (backTo pos (starEach [e] env)) []) Q E s₂) E s₁) E s) :
    PySem.wpAt M A c (eval (.Call (.Attribute o name apos) [e] [] pos) env) Q E s := by
  have hform : methodCallForm ([e].length + ([] : List Keyword).length) (backTo pos (starEach [e] env)) (backToKw pos (keywordEach [] env)) = true := hf
  have hpos : methodCallPos true o env apos pos = pure pos := by unfold methodCallPos; simp [hline]
  rw [arm_eval_Call]
  refine PySem.wpAt_bind (ks_wpAt_mono (h (do return (← importBound o env).getD true)) (fun ov s1 h1 => ?_) fun _ _ z => z)
  refine PySem.wpAt_of_wpAny (wpAny_bind (wpAny_standAt ?_))
  unfold methodCall
  rw [hform]
  refine wpAny_bind (wpAny_holding (thn h1 fun fx s2 h2 => ?_))
  exact wpAny_bind (wpAny_of_eq hpos h2)
/-- the __init__ runs -/
theorem bad_init {C fI e t0 : Addr} {fl : Str} {fd : FuncData} {u : Value} {base : Heap} {mg : Str → Option Value} (T : BadI P K C fI fl fd) (hM : Mod K mg base) (bk : ∀ b o, base.get? b = some o → hp.get? b = some o) (hsup : mg "super" = none) (hbe : base.get? e = none)
    (hb : Binds K fd ["self", fl] []) (hnm : ("self" : Str) ≠ fl ∧ ("super" : Str) ≠ fl ∧ ("__class__" : Str) ≠ fl ∧ (fl == ("__debug__" : Str)) = false) (hroom : A.depth < recursionLimit)
    (he : hp.get? e = some (PySem.HandSPX.excO C t0))
    (hq : ∀ h' tk' dx t1, (∀ b o, b ≠ e → hp.get? b = some o → h'.get? b = some o) → hp.objs.size ≤ dx → h'.get? e = some { cls := .ref C, dict := some dx, data := .fields #[.ref t1, .none, .none, .none, .bool false, .none] } →
      h'.Ns1 dx (fun y => if y = fl then some u else none) → R (.ok (.ret .none)) ⟨h', g, dr, tk', os⟩) :
    codeAny (model P w) A (.call (.ref fI) ⟨[.ref e, u], []⟩) R ⟨hp, g, dr, t, os⟩ := by
  obtain ⟨q, p0, p1, p2, p3, p4, p5, p6, p7, p8, p9, prm, dV, kV, doc, pm, ct, oc, cl, ccl, an, od, cld, cdd, cda, cc, osl, csl, ccs, vs, file, tf, rfl, hself, lkf, hcode, lkc, lkd, hvs, hfile, hline, htop⟩ := T.fn
  have kin : K.In hp := hM.kin.keeps bk
  obtain ⟨hn1, hn2, hn3, hn4⟩ := hnm
  have k1 : (badScope fl).names.lookup ("self" : Str) = some .local := rfl
  have k2 : (badScope fl).names.lookup fl = some .local := by
    have z : (fl == ("self" : Str)) = false := by simpa using fun h => hn1 h.symm
    simp [badScope, List.lookup, z]
  have k3 : (badScope fl).names.lookup ("super" : Str) = some .globalImplicit := by
    have z : (("super" : Str) == fl) = false := by simpa using hn2
    have z1 : (("super" : Str) == ("self" : Str)) = false := by decide
    have z2 : (("super" : Str) == ("__class__" : Str)) = false := by decide
    simp only [badScope, List.lookup, z, z1, z2]
    rfl
  have k4 : (badScope fl).names.lookup ("__class__" : Str) = some .free := by
    have z : (("__class__" : Str) == fl) = false := by simpa using hn3
    have z1 : (("__class__" : Str) == ("self" : Str)) = false := by decide
    simp only [badScope, List.lookup, z, z1]
    rfl
  obtain ⟨cd, ecd, ehd, etl⟩ := T.cdt
  refine ks_codeAny_call_defAt (fd := fnX "__init__" q prm (badBody fl p0 p1 p2 p3 p4 p5 p6 p7 p8 p9) (badScope fl) [("__class__", cc)] dV kV doc pm an (.ref cda) ct) (body := badBody fl p0 p1 p2 p3 p4 p5 p6 p7 p8 p9) (binds := [("self", .ref e), (fl, u)]) hroom (kin _ _ lkf) rfl (hM.nolimit.keeps bk) (codeRec_of kin hcode) rfl (hb _ [.ref e, u] kin rfl) ?_ ?_ ?_ rfl rfl rfl
  · intro x hx
    simp only [fnX, badScope, List.mem_cons, List.not_mem_nil, or_false] at hx
    rcases hx with rfl | rfl | rfl | rfl <;> simp
  · intro x hx
    simp only [List.mem_cons, List.not_mem_nil, or_false] at hx
    rcases hx with rfl | rfl
    · exact k1
    · exact k2
  intro h1 ns1 kp1
  have bk1 : ∀ b o, base.get? b = some o → h1.get? b = some o := fun b o z => kp1 b o (bk b o z)
  have kin1 : K.In h1 := hM.kin.keeps bk1
  have he1 := kp1 _ _ he
  have at1 : InstAt h1 e (PySem.HandSPX.excO C t0) C none := ⟨he1, rfl, rfl, trivial⟩
  obtain ⟨oD, hD1, hD2⟩ : ∃ oD, h1.get? C = some oD ∧ oD.data = .cls cd := by
    unfold clsIn at ecd
    split at ecd
    · rename_i c d cd' sl ho
      cases ecd
      exact ⟨_, kin1 _ _ ho, rfl⟩
    · cases ecd
  obtain ⟨mb, hb1, hb2⟩ := hM.blt
  have m1 : (fun x => ([("self", Value.ref e), (fl, u)] : List (Str × Value)).reverse.lookup x) ("self" : Str) = some (.ref e) := by
    have z : (("self" : Str) == fl) = false := by simpa using hn1
    show ([(fl, u), ("self", Value.ref e)] : List (Str × Value)).lookup ("self" : Str) = _
    simp [List.lookup, z]
  have m2 : (fun x => ([("self", Value.ref e), (fl, u)] : List (Str × Value)).reverse.lookup x) fl = some u := by
    show ([(fl, u), ("self", Value.ref e)] : List (Str × Value)).lookup fl = _
    simp [List.lookup]
  obtain ⟨ar, har, earg⟩ : ∃ ar, (prm.posonlyargs ++ prm.args).head? = some ar ∧ ar.arg = ("self" : Str) := by
    cases z : (prm.posonlyargs ++ prm.args).head? with
    | none => rw [z] at hself; cases hself
    | some ar => rw [z] at hself; exact ⟨ar, rfl, Option.some.inj hself⟩
  have kmd : Looks (model P w) h1 (mroOf (.ref C)) cd.mro := (looks_clsIn kin1 ecd).andThen .now
  refine ks_wpAt_execs_cons (ks_wpAt_Expr_any (bad_call hline (by rfl) fun pl => ks_wpAt_super_base (ar := ar) (cc := cda) k3 k4 (by decide) rfl (kin1 _ _ lkf) rfl har rfl (kin1 _ _ lkd) rfl hvs hfile htop ?_))
  refine ks_loadName_global rfl k3 (loadGlobal_builtin (hM.glob.keeps bk1) hsup (hb1.keeps bk1) ((hb2 _ (by decide)).trans (by rfl)) ⟨rfl, ?_⟩)
  refine wpAny_loadName_free rfl k4 rfl ⟨_, kin1 _ _ lkc, rfl⟩ ?_
  rw [earg]
  refine wpAny_loadName_local rfl k1 ns1 m1 ?_
  refine ks_wpAny_isType_cls hD1 hD2 ⟨rfl, ?_⟩
  refine ks_wpAny_call_super hD1 hD2 he1 rfl (fun c z => by cases z) (looks_mroIn kin1 T.own) fun h2 hso kp2 => ?_
  have bk2 : ∀ b o, base.get? b = some o → h2.get? b = some o := fun b o z => kp2 b o (bk1 b o z)
  have kin2 : K.In h2 := hM.kin.keeps bk2
  have he2 := kp2 _ _ he1
  have at2 : InstAt h2 e (PySem.HandSPX.excO C t0) C none := ⟨he2, rfl, rfl, trivial⟩
  have hsup2 : alongIn K "__init__" ((cd.mro.dropWhile (· != .ref C)).drop 1) = some (some (.builtin "Exception.__init__")) := by
    have z := T.sup
    unfold ks_superIn at z
    rw [ecd] at z
    exact z
  refine kxs_getMethod kxs_Exception hso (looks_opaque kin2 T.opq) (kmd.keeps kp2) rfl kin2 hsup2 (at2.type.andThen (looks_subIn kin2 T.exE)) (ks_ne kin2 at2 ecd) (by decide) ?_
  have kp3 : ∀ b o, h2.get? b = some o → (h2.push (kxs_mw "Exception.__init__" e)).get? b = some o := fun b o z => Heap.get?_push_of_some _ z
  have ns3 := ns1.at fun o z => kp3 _ o (kp2 _ o z)
  refine PySem.ESX.callWith_bound (x := e) (rest := []) ?_
  refine PySem.Calls.spliced_cons (PySem.ESX.ldL ns3 m2 ?_ rfl k2 hn4)
  refine PySem.Calls.spliced_nil ⟨Heap.get?_push_size _ rfl, ?_⟩
  obtain ⟨nm, N, qn, bs, bm, hdct, sn, sub, ab, col, dd, c0, c1, c2, c3, c5, hC, hbm⟩ := excInit_of kin2 T.cls
  refine PySem.ESX.call_bw (kp3 _ _ hC) (kp3 _ _ he2) (Heap.get?_push_size _ rfl) (by simp [sizeLine_eq]) fun h4 t4 kp4 he4 => ?_
  have kp5 : ∀ b o, b ≠ e → h1.get? b = some o → h4.get? b = some o := fun b o n z => kp4 b o n (kp3 _ o (kp2 _ o z))
  have bn : ∀ b o, base.get? b = some o → b ≠ e := fun b o z n => by
    subst n
    rw [hbe] at z
    cases z
  have kin4 : K.In h4 := hM.kin.keeps fun b o z => kp5 b o (bn b o z) (bk1 b o z)
  have ne : hp.objs.size ≠ e := Nat.ne_of_gt (Heap.lt_size he)
  have ns4 : h4.Ns hp.objs.size (fun x => ([("self", Value.ref e), (fl, u)] : List (Str × Value)).reverse.lookup x) := ns3.at fun o z => kp4 _ o ne z
  refine ks_wpAt_execs_cons (PySem.wpAt_of_wpAny (plainObj_wpAny_Assign_Attribute (PySem.ESX.ldL ns4 m2 (PySem.ESX.ldL ns4 m1 ?_ rfl k1) rfl k2 hn4)))
  refine set_plain kin4 (ox := { cls := .ref C, data := .fields #[.ref t4, .none, .none, .none, .bool false, .none] }) (od := none) ⟨he4, rfl, rfl, trivial⟩ T.sa ?_
  refine bad_store kin4 he4 ecd etl ehd T.exO T.no fun h6 tk6 dx kp6 hdx hne he6 hns6 => ?_
  refine PySem.wpAt_of_wpAny (wpAny_execs_nil ?_)
  refine hq h6 _ dx t4 (fun b o n z => kp6 b o n (kp5 b o n (kp1 b o z))) (Nat.le_trans (Nat.le_of_lt ns4.lt) hdx) he6 hns6
end

/-! ### C(e): an exception is made -/
section
variable {X : Cx} {x : Str} {p pos : Pos} {e : Expr} {C fI : Addr} {fl : Str} {fd : FuncData}
theorem exo_frz' {a C b : Addr} {d : Option Addr} {o : Obj} {u : HO} {H : Hp} (ha : H a = some (exo a C d)) (hb : H b = some (.frz o u)) : b ≠ a := at_ne ha hb exo_frz
/-- what C(e) makes: its dict, with the one field -/
theorem pmk_bad {ta : TA} (T : BadI X.prog X.K C fI fl fd) (hb : Binds X.K fd ["self", fl] []) (hsup : X.mg "super" = none) (hnm : ("self" : Str) ≠ fl ∧ ("super" : Str) ≠ fl ∧ ("__class__" : Str) ≠ fl ∧ (fl == ("__debug__" : Str)) = false)
    (hr : Room 1 X.A) (hm : X.mg x = some (.ref C)) (ha : PA X [e] ta) (hg : Gl X x := by rfl) (hdb : (x == ("__debug__" : Str)) = false := by decide) (hst : starEach [e] X.env = [(false, eval e X.env)] := by rfl) :
    PMk X (.Call (.Name x p) [e] [] pos) (fun σ H Q => ta σ H fun vs H1 => ∃ y, vs = [y] ∧ ∀ d, H1 d = none → Q (.ref C) (some d) (upd H1 d (.xd [(fl, y)]))) := by
  intro pins s σ H Q I h
  refine wpAny_Call_Name_kw (ld_glob I hg hm ?_ hdb)
  refine PySem.W.callWith_K (h₀ := X.base) (rest := []) I.ok.mod.kin T.kC (thn (ha.run pos pins s σ H _ I h) fun us s1 ⟨vs, H1, I1, r1, y, ev, q1⟩ => ⟨I1.kIn, ?_⟩) hst (by rfl)
  subst ev
  cases r1 with
  | @cons _ u _ _ ry rn =>
    cases rn
    show wpAny _ _ (call (.ref C) [u]) _ _ _
    obtain ⟨hp, g, dr, tk, os⟩ := s1
    obtain ⟨nm, N, qn, bs, bm, hdct, sn, sub, ab, col, dd, c0, c1, c2, c3, c5, hC, hbm⟩ := PySem.W.excInit_of I1.kIn T.cls
    have hsz : hp.objs.size ≤ hp.objs.size + 1 := Nat.le_succ _
    have hn : H1 (hp.objs.size + 1) = none := I1.hok.fresh hsz
    have kk : ∀ b o, hp.get? b = some o → ((hp.push (PySem.W.kdv_tup [u])).push (PySem.HandSPX.excO C hp.objs.size)).get? b = some o := fun b o e => Heap.get?_push_of_some _ (Heap.get?_push_of_some _ e)
    have hget : ((hp.push (PySem.W.kdv_tup [u])).push (PySem.HandSPX.excO C hp.objs.size)).get? (hp.objs.size + 1) = some (PySem.HandSPX.excO C hp.objs.size) := by heap_get
    have I2 : Inv X pins σ (upd H1 (hp.objs.size + 1) (exo (hp.objs.size + 1) C none)) ⟨(hp.push (PySem.W.kdv_tup [u])).push (PySem.HandSPX.excO C hp.objs.size), g, dr, tk, os⟩ :=
      I1.laid (t' := tk) (a := hp.objs.size + 1) (o := exo (hp.objs.size + 1) C none) (h' := (hp.push (PySem.W.kdv_tup [u])).push (PySem.HandSPX.excO C hp.objs.size)) kk hsz (exo_ok hget)
    have bsn : X.base.get? (hp.objs.size + 1) = none := by
      cases z : X.base.get? (hp.objs.size + 1) with
      | none => rfl
      | some o =>
        have z1 := Heap.lt_size z
        have z2 := I1.ok.bsz
        have z3 : X.s_0.heap.objs.size ≤ hp.objs.size := I1.sz
        exact absurd (Nat.lt_of_lt_of_le z1 (Nat.le_trans z2 z3)) (by show ¬ (hp.objs.size + 1 < hp.objs.size); omega)
    have kin2 := I2.kIn
    refine wpAny_call (PySem.HandSPX.call_own F.excBase_Exception hbm hC (PySem.W.looks_findIn I1.kIn T.ini) (fun self => PySem.W.bind_fn I1.kIn self T.tI) (by simp [sizeLine_eq])
      (bad_init T I1.ok.mod (fun b o z => kk b o (I1.bk b o z)) hsup bsn hb hnm (hr.make C [u] []).depth hget fun h' tk' dx t1 k' hdx hx hns => ?_))
    have hnd : H1 dx = none := I1.hok.fresh (Nat.le_trans (by rw [Heap.size_push, Heap.size_push]; exact Nat.le_trans (Nat.le_succ _) (Nat.le_succ _)) hdx)
    have dne : dx ≠ hp.objs.size + 1 := fun z => by
      rw [Heap.size_push, Heap.size_push, z] at hdx
      omega
    have nd : ∀ {b : Addr} {o : Obj}, ((hp.push (PySem.W.kdv_tup [u])).push (PySem.HandSPX.excO C hp.objs.size)).get? b = some o → b ≠ dx := fun {b o} z => Nat.ne_of_lt (Nat.lt_of_lt_of_le (Heap.lt_size z) hdx)
    generalize ea : hp.objs.size + 1 = a at *
    have Hd : upd H1 a (exo a C none) dx = none := by rw [upd_ne dne]; exact hnd
    have Ha : upd H1 a (exo a C none) a = some (exo a C none) := upd_same
    have un : Un (frs X.stack) [] (upd H1 a (exo a C none)) (upd (upd (upd H1 a (exo a C none)) dx (exd dx [(fl, y)])) a (exo a C (some dx))) ((hp.push (PySem.W.kdv_tup [u])).push (PySem.HandSPX.excO C hp.objs.size)) h' := by
      have na : ∀ {b : Addr}, upd H1 a (exo a C none) b = none → b ≠ a := fun {b} n z => by
        rw [z, Ha] at n
        cases n
      exact {
        keep := fun b o z n _ _ => k' b o (na n) z
        slot := fun b o z n _ _ => ⟨o.slots, k' b o (na n) z⟩
        free := fun b o z n _ => by rw [upd_ne (na n), upd_ne (nd z)]; exact n
        there := fun b o z _ => by
          by_cases hb : b = a
          · exact ⟨_, by rw [hb]; exact hx⟩
          · exact ⟨o, k' b o hb z⟩
        tups := fun b xs z => by rw [upd_ne (at_ne Ha z exo_tup), upd_ne (ne_of_none z Hd)]; exact z
        frzs := fun b o v z => by rw [upd_ne (at_ne Ha z exo_frz), upd_ne (ne_of_none z Hd)]; exact z
        tbls := fun b ps z => ⟨#[], by rw [upd_ne (at_ne Ha z exo_tbl), upd_ne (ne_of_none z Hd), z]; simp⟩ }
    have hok : HOk X.prog X.w (upd (upd (upd H1 a (exo a C none)) dx (exd dx [(fl, y)])) a (exo a C (some dx))) h' := fun b o z => by
      by_cases hb : b = a
      · subst hb
        rw [upd_same] at z
        cases z
        exact exo_ok hx
      · rw [upd_ne hb] at z
        by_cases hd : b = dx
        · subst hd
          rw [upd_same] at z
          cases z
          exact exd_ok hns (relO_put (fs := []) ry fun g => True.intro)
        · rw [upd_ne hd] at z
          exact (I2.hok b o z).stay (fun c v hc z2 => k' c v (by
              rcases hc with hc | hc
              · rw [hc]
                exact hb
              · exact at_ne Ha hc exo_own) z2)
            (fun c hc => by rw [upd_ne (at_ne Ha hc exo_own), upd_ne (ne_of_none hc Hd)]; exact hc) (fun c xs hc => by rw [upd_ne (at_ne Ha hc exo_tup), upd_ne (ne_of_none hc Hd)]; exact hc)
    refine ⟨rfl, mk_end (raises_own T.exC T.tyC) I1 (by omega) kk un hok rfl I1.bare upd_same (by rw [upd_ne dne]; exact upd_same) hnd ?_⟩
    have q2 := q1 dx hnd
    have e3 : upd (del (upd (upd (upd H1 a (exo a C none)) dx (exd dx [(fl, y)])) a (exo a C (some dx))) a) dx (.xd [(fl, y)]) = upd H1 dx (.xd [(fl, y)]) := by
      funext b
      by_cases hd : b = dx
      · rw [hd, upd_same, upd_same]
      · rw [upd_ne hd, upd_ne hd]
        by_cases hb : b = a
        · rw [hb, del_same, hn]
        · rw [del_ne hb, upd_ne hb, upd_ne hd, upd_ne hb]
    rw [e3]
    exact q2
end
end TL
end
section
set_option maxRecDepth 100000
set_option maxHeartbeats 2000000
/-! TY: what may raise, over tree values: expressions, statements, try. -/
namespace TL
open PySem PySem.Spec PyProof.Rows L2

/-- an exception that leaves: its class, its fields, the slots, the heap -/
abbrev XDX := Addr → List (Str × D) → En → Mp → Prop
def xW (K : PySem.W.Frag) (H F : Hp) (M : Mp) (EX : XDX) : WX := fun cls d σ H' => ∃ F' M' ρ' C dx vfs fs, cls = .ref C ∧ d = some dx ∧ F' dx = some (.xd vfs) ∧ Stp K H F M H' F' M' ∧ Sim K H' F' M' σ ρ' ∧ RepF K F' vfs fs ∧ EX C fs ρ' M'
theorem xW.back {K : PySem.W.Frag} {H F H1 F1 : Hp} {M M1 : Mp} {EX : XDX} {c : Value} {d : Option Addr} {σ : SS} {H' : Hp} (t : Stp K H F M H1 F1 M1) (h : xW K H1 F1 M1 EX c d σ H') : xW K H F M EX c d σ H' :=
  let ⟨F', M', ρ', C, dx, vfs, fs, h1, h2, h3, h4, h5⟩ := h; ⟨F', M', ρ', C, dx, vfs, fs, h1, h2, h3, t.trans h4, h5⟩
theorem xW.imp {K : PySem.W.Frag} {H F : Hp} {M : Mp} {EX EX' : XDX} {c : Value} {d : Option Addr} {σ : SS} {H' : Hp} (q : ∀ C fs ρ M, EX C fs ρ M → EX' C fs ρ M) (h : xW K H F M EX c d σ H') : xW K H F M EX' c d σ H' :=
  let ⟨F', M', ρ', C, dx, vfs, fs, h1, h2, h3, h4, h5, h6, h7⟩ := h; ⟨F', M', ρ', C, dx, vfs, fs, h1, h2, h3, h4, h5, h6, q _ _ _ _ h7⟩
/-- an expression that may raise -/
structure WEX (X : Cx) (e : Expr) (ρ : En) (M : Mp) (Q : DQ) (EX : XDX) : Prop where
  run : ∀ (pins : Pins) (s : Shared) (σ : SS) (H F : Hp), Inv X pins σ H s → Sim X.K H F M σ ρ → Takes X (xW X.K H F M EX) → wpAny (model X.prog X.w) X.A (eval e X.env) (TEnd X pins σ H F M Q) X.xe s
/-- a block, a statement that may raise -/
structure WSsX (X : Cx) (sts : List Stmt) (ρ : En) (M : Mp) (E : TEs) (EX : XDX) : Prop where
  run : ∀ (pins : Pins) (s : Shared) (σ : SS) (H F : Hp), Inv X pins σ H s → Sim X.K H F M σ ρ → Takes X (xW X.K H F M EX) → wpAny (model X.prog X.w) X.A (execs sts X.env) (SP X pins (E.ends X H F M)) X.xe s
structure WSX (X : Cx) (st : Stmt) (ρ : En) (M : Mp) (E : TEs) (EX : XDX) : Prop where
  run : ∀ (pins : Pins) (s : Shared) (σ : SS) (H F : Hp), Inv X pins σ H s → Sim X.K H F M σ ρ → Takes X (xW X.K H F M EX) → wpAny (model X.prog X.w) X.A (exec st X.env) (SP X pins (E.ends X H F M)) X.xe s
section
variable {X : Cx} {ρ : En} {M : Mp} {Q : DQ} {EX : XDX} {E : TEs} {e a b c : Expr} {st : Stmt} {sts rest : List Stmt} {pos pos' : Pos} {k : Nat} {f C : Addr} {fd : FuncData} {ps : List Str} {x n : Str} {p : Pos} {es : List Expr}
theorem tk_back {H F H1 F1 : Hp} {M1 : Mp} (tk : Takes X (xW X.K H F M EX)) (t : Stp X.K H F M H1 F1 M1) : Takes X (xW X.K H1 F1 M1 EX) := tk.imp fun _ _ _ _ h => h.back t
theorem WE.imp {Q' : DQ} (h : WE X e ρ M Q) (q : ∀ d M', Q d M' → Q' d M') : WE X e ρ M Q' := ⟨fun pins s σ H F I S => thn (h.run pins s σ H F I S) fun _ _ z => z.imp q⟩
theorem WEX.of (h : WE X e ρ M Q) : WEX X e ρ M Q EX := ⟨fun pins s σ H F I S _ => h.run pins s σ H F I S⟩
theorem WSsX.of (h : WSs X sts ρ M E) : WSsX X sts ρ M E EX := ⟨fun pins s σ H F I S _ => h.run pins s σ H F I S⟩
theorem WSX.of (h : WS X st ρ M E) : WSX X st ρ M E EX := ⟨fun pins s σ H F I S _ => h.run pins s σ H F I S⟩
theorem WSsX.cons (h : WSX X st ρ M { E with nx := fun ρ' M' => WSsX X rest ρ' M' E EX } EX) : WSsX X (st :: rest) ρ M E EX := by
  refine ⟨fun pins s σ H F I S tk => ?_⟩
  refine wpAny_execs_cons (thn (h.run pins s σ H F I S tk) fun f s1 q => ?_)
  cases f with
  | next =>
    obtain ⟨σ', H', I', F', M', ρ', t, S', q⟩ := q
    exact thn (q.run pins s1 σ' H' F' I' S' (tk_back tk t)) fun _ _ q => SP.back t q
  | ret v => exact q
  | brk => exact q
  | cont => exact q
/-- .. the first one doesn't raise -/
theorem WSsX.then (h : WS X st ρ M { E with nx := fun ρ' M' => WSsX X rest ρ' M' E EX }) : WSsX X (st :: rest) ρ M E EX := .cons (.of h)
theorem WSsX.one (h : WSX X st ρ M E EX) : WSsX X [st] ρ M E EX := .cons ⟨fun pins s σ H F I S tk => thn (h.run pins s σ H F I S tk) fun f s1 q => SP.imp q (fun _ _ ⟨a, b, c, d, e, r⟩ => ⟨a, b, c, d, e, .of (.done r)⟩) (fun _ _ q => q) (fun _ _ q => q) (fun _ _ q => q)⟩
theorem WSX.ite {sa sb : List Stmt} (h : WT X c ρ M fun k M' => (k = true → WSsX X sa ρ M' E EX) ∧ (k = false → WSsX X sb ρ M' E EX)) : WSX X (.If c sa sb pos) ρ M E EX := by
  refine ⟨fun pins s σ H F I S tk => ?_⟩
  refine wpAny_If (thn (h.run pins s σ H F I S) fun d s1 ⟨H1, F1, M1, I1, t1, q1, q2⟩ => ?_)
  cases d with
  | true => exact thn ((q1 rfl).run pins s1 σ H1 F1 I1 (S.step t1) (tk_back tk t1)) fun _ _ q => SP.back t1 q
  | false => exact thn ((q2 rfl).run pins s1 σ H1 F1 I1 (S.step t1) (tk_back tk t1)) fun _ _ q => SP.back t1 q
theorem WSX.ret (h : WEX X e ρ M E.rt EX) : WSX X (.Return (some e) pos) ρ M E EX :=
  ⟨fun pins s σ H F I S tk => wpAny_Return_some (thn (h.run pins s σ H F I S tk) fun v s1 ⟨x, H1, F1, M1, d, I1, r1, t1, p1, q⟩ => ⟨x, σ, H1, I1, r1, F1, M1, d, t1, p1, q⟩)⟩
theorem WSX.set (i : Nat) {pos' : Pos} (h : WEX X e ρ M (fun x M1 => E.nx (ρ.set i (some x)) M1) EX) (hN : X.N.Nodup) (hi : X.N[i]? = some n := by rfl) (hx : Loc X.env.scope n := by first | exact .inl rfl | exact .inr rfl)
    (hs : swapsWith e (some (.Name n pos')) pos.line X.env = pure false := by rfl) (hf : X.fn n = true ∨ X.env.scope.names.lookup n = some .local := by first | exact .inl rfl | exact .inr rfl) : WSX X (.Assign [.Name n pos'] e pos) ρ M E EX := by
  refine ⟨fun pins s σ H F I S tk => ?_⟩
  refine wpAny_Assign_Name (thn (h.run pins s σ H F I S tk) fun v s1 ⟨y, H1, F1, M1, d, I1, r1, t1, p1, q⟩ => ?_) hs
  exact store_ok I1 hN hi hx r1 (fun s2 I2 => ⟨_, H1, I2, F1, M1, _, t1, (S.step t1).set i p1, q⟩) hf
theorem WSX.expr (h : WEX X e ρ M (fun _ M' => E.nx ρ M') EX) (hs : swapsWith e none pos.line X.env = pure false := by rfl) : WSX X (.Expr e pos) ρ M E EX :=
  ⟨fun pins s σ H F I S tk => wpAny_Expr_any (thn (h.run pins s σ H F I S tk) fun v s1 ⟨x, H1, F1, M1, d, I1, r1, t1, p1, q⟩ => ⟨σ, H1, I1, F1, M1, ρ, t1, S.step t1, q⟩) I.quiet hs⟩
theorem WEX.ife (h : WT X c ρ M fun k M1 => (k = true → WEX X a ρ M1 Q EX) ∧ (k = false → WEX X b ρ M1 Q EX)) : WEX X (.IfExp c a b pos) ρ M Q EX := by
  refine ⟨fun pins s σ H F I S tk => ?_⟩
  refine wpAny_IfExp (thn (h.run pins s σ H F I S) fun d s1 ⟨H1, F1, M1, I1, t1, q1, q2⟩ => ?_)
  cases d with
  | true => exact thn ((q1 rfl).run pins s1 σ H1 F1 I1 (S.step t1) (tk_back tk t1)) fun _ _ e => e.back t1
  | false => exact thn ((q2 rfl).run pins s1 σ H1 F1 I1 (S.step t1) (tk_back tk t1)) fun _ _ e => e.back t1
/-- raise C(e) -/
theorem WSX.raise {fI : Addr} {fl : Str} (hc : X.calm = true) (T : BadI X.prog X.K C fI fl fd) (hb : Binds X.K fd ["self", fl] []) (hsup : X.mg "super" = none) (hnm : ("self" : Str) ≠ fl ∧ ("super" : Str) ≠ fl ∧ ("__class__" : Str) ≠ fl ∧ (fl == ("__debug__" : Str)) = false)
    (hr : GRoom 1 X.A) (hm : X.mg x = some (.ref C)) (h : WE X e ρ M fun y M1 => EX C [(fl, y)] ρ M1) (hg : Gl X x := by rfl) (hdb : (x == ("__debug__" : Str)) = false := by decide) (hst : starEach [e] X.env = [(false, eval e X.env)] := by rfl) :
    WSX X (.Raise (some (.Call (.Name x p) [e] [] pos)) none pos') ρ M E EX := by
  refine ⟨fun pins s σ H F I S tk => ?_⟩
  have ha : WA X [e] ρ M fun ds M1 => ∃ y, ds = [y] ∧ EX C [(fl, y)] ρ M1 := .cons (h.imp fun y M1 q => .nil ⟨y, rfl, q⟩) hst
  refine (ps_raise (W := xW X.K H F M EX) hc tk (pmk_bad T hb hsup hnm hr.room hm (lTA_ok (es := [e])) hg hdb hst)).run pins s σ H (E.ends X H F M) I ⟨F, M, ρ, _, S, ha, fun vs H1 F1 M1 ds t rp q => ?_⟩
  obtain ⟨y, rfl, q⟩ := q
  cases rp with
  | @cons v _ _ _ rv rp =>
    cases rp
    refine ⟨_, rfl, fun d hd => ?_⟩
    have t2 := Stp.new (o := .xd [(fl, v)]) t.good hd
    exact ⟨_, M1, ρ, C, d, _, _, rfl, rfl, upd_same, t.trans t2, (S.step t).step t2, .cons (t2.rep rv) .nil, q⟩
/-- a call that may raise -/
theorem WEX.call {XQ : XDQ} (hr : GRoom k X.A) (hm : X.mg x = some (.ref f)) (hk : PySem.W.keepIn X.K (.ref f) = true) (hb : Binds X.K fd ps []) (hx : ∀ C fs M', XQ C fs M' → EX C fs ρ M') (h : WA X (e :: es) ρ M fun xs M1 => TFn X.prog X.w X.K X.mg X.base k f fd ps xs M1 Q XQ)
    (hg : Gl X x := by rfl) (hdb : (x == ("__debug__" : Str)) = false := by decide) (he : starEach (e :: es) X.env = (false, eval e X.env) :: starEach es X.env := by rfl) (hpl : (backTo pos (starEach es X.env)).any (·.1) = false := by rfl) :
    WEX X (.Call (.Name x p) (e :: es) [] pos) ρ M Q EX := by
  refine ⟨fun pins s σ H F I S tk => ?_⟩
  refine wpAny_Call_Name_kw (ld_glob I hg hm ?_ hdb)
  refine PySem.W.callWith_K (h₀ := X.base) I.ok.mod.kin hk (thn (h.run pos pins s σ H F I S) fun us s1 ⟨vs, H1, F1, M1, ds, I1, r, t, rp, q⟩ => ⟨I1.kIn, ?_⟩) he hpl
  have hl : (us ++ []).length = ps.length := by rw [List.append_nil, ← r.length, rp.length]; exact q.len
  have b := hb s1 us I1.kIn hl
  rw [List.append_nil] at b
  refine wpAny_call (codeAny_mono (q.run X.A X.stack s1 H1 F1 ⟨us, []⟩ us vs hr I1.env0 b r t.good rp) fun r s' hq => ?_)
  cases r with
  | error e =>
    refine tk e s' (XE.of_call I1 (fun cls d H' ⟨C, dx, F', M', vfs, fs, h1, h2, h3, t', rp', q'⟩ => ?_) hq)
    exact ⟨F', M', ρ, C, dx, vfs, fs, h1, h2, h3, t.trans t', (S.step t).step t', rp', hx _ _ _ q'⟩
  | ok fl =>
    cases fl with
    | ret u => exact (call_back I1 hq).back t
    | next => exact False.elim hq
    | brk => exact False.elim hq
    | cont => exact False.elim hq
/-- .. by keywords -/
theorem WEX.callKw {XQ : XDQ} {ks : List Str} {kws : List Keyword} (b : Bool) (hr : GRoom k X.A) (hm : X.mg x = some (.ref f)) (hk : PySem.W.keepIn X.K (.ref f) = true) (hb : KwB fd ps ks b) (hl : ps.length = ks.length) (hx : ∀ C fs M', XQ C fs M' → EX C fs ρ M')
    (h : WK X kws ρ M fun xs M1 => TFn X.prog X.w X.K X.mg X.base k f fd ps (turn b xs) M1 Q XQ)
    (hg : Gl X x := by rfl) (hall : (backToKw pos (keywordEach kws X.env)).all (·.1.isSome) = true := by rfl) (hks : (backToKw pos (keywordEach kws X.env)).filterMap (·.1) = ks := by rfl) (hdb : (x == ("__debug__" : Str)) = false := by decide)
    (hpl : ((backTo pos (starEach [] X.env)).any (·.1) || (backToKw pos (keywordEach kws X.env)).any (·.1.isNone)) = false := by rfl) : WEX X (.Call (.Name x p) [] kws pos) ρ M Q EX := by
  refine ⟨fun pins s σ H F I S tk => ?_⟩
  refine wpAny_Call_Name_kw (ld_glob I hg hm ?_ hdb)
  refine PySem.W.callWith_KW0 (h₀ := X.base) I.ok.mod.kin hk hall ?_ hpl
  refine thn (h.run pos pins s σ H F I S) fun ws s1 ⟨zs, H1, F1, M1, ds, I1, rz, t, rp, q⟩ => ⟨I1.kIn, ?_⟩
  rw [hks]
  have hw : ws.length = ks.length := by rw [← rz.length, rp.length, ← turn_len b ds, q.len, hl]
  refine wpAny_call (codeAny_mono (q.run X.A X.stack s1 H1 F1 ⟨[], ks.zip ws⟩ _ _ hr I1.env0 (hb s1 ws hw) (Vals.turn b rz) t.good (Reps.turn b rp)) fun r s' hq => ?_)
  cases r with
  | error e =>
    refine tk e s' (XE.of_call I1 (fun cls d H' ⟨C, dx, F', M', vfs, fs, h1, h2, h3, t', rp', q'⟩ => ?_) hq)
    exact ⟨F', M', ρ, C, dx, vfs, fs, h1, h2, h3, t.trans t', (S.step t).step t', rp', hx _ _ _ q'⟩
  | ok fl =>
    cases fl with
    | ret u => exact (call_back I1 hq).back t
    | next => exact False.elim hq
    | brk => exact False.elim hq
    | cont => exact False.elim hq
end

/-! ### a def that may raise -/
section
variable {P : Program} {w : World} {K : PySem.W.Frag} {mg : Str → Option Value} {base : Heap} {k : Nat} {f : Addr} {fd : FuncData} {ps : List Str} {ds : List D} {M : Mp} {Q : DQ} {XQ : XDQ}
variable {x qual : Str} {params : Arguments} {body : List Stmt} {scope : Scope} {N : List Str}
theorem TFn.ofX (Fd : FunD K x qual params body scope [] [] f fd) (Sc : FnScope N ps scope) (hl : ds.length = ps.length)
    (hb : ∀ (cdv : Value) (A : Around) (outer : List Env) (s : Shared) (H F : Hp), GRoom k (A.deeper (envOfC qual scope s.heap.objs.size f cdv)) →
      WSsX (cxOf (L2.CX P w) P w K mg base N qual scope f cdv A outer s H (XEnd K H F M XQ)) body (startD N ds) M { nx := fun _ M' => Q .non M', rt := Q } fun C fs _ M' => XQ C fs M') :
    TFn P w K mg base (k + 1) f fd ps ds M Q XQ := by
  obtain ⟨oc, od, dV, kV, doc, pm, an, cdv, ct, osl, rfl, lk, hcd, _, _⟩ := Fd.ex
  refine ⟨hl, fun A outer s H F args us vs hr e0 hbd r g rp => ?_⟩
  have KX : K.In s.heap := e0.mod.kin.keeps fun b o e => (e0.bs b o e).1
  have lim : s.heap.NoLimit := e0.mod.nolimit.keeps fun b o e => (e0.bs b o e).1
  have hk : ∀ y ∈ ps.zip us, scope.names.lookup y.1 = some .local ∨ (scope.names.lookup y.1 = some .cell ∧ ((cellsFrom (s.heap.objs.size + 1) scope.names []).lookup y.1).isSome = true) := by
    rintro ⟨n, v⟩ hy
    rcases Sc.par n (List.of_mem_zip hy).1 with q | q
    · exact .inl q
    · exact .inr ⟨q, PySem.W.cellsFrom_some _ _ _ (.inl q)⟩
  refine codeAny_call_function hr.room.depth (KX _ _ lk) rfl Sc.co Sc.gen rfl (PySem.W.codeRec_of KX hcd) (hbd _ _ _ _ (wpAny_newFunctionEnv_cells Sc.kind hk fun env he s1 x => ?_))
  subst he
  refine ⟨lim.keeps x.toInCall.keep, codeAny_func ?_⟩
  have I : Inv (cxOf (L2.CX P w) P w K mg base N qual scope f cdv A outer s H (XEnd K H F M XQ)) [] (L2.start N vs) H s1 := inv_start Sc hr.room.hd e0 (rp.length.trans hl) r x
  have tk : Takes (cxOf (L2.CX P w) P w K mg base N qual scope f cdv A outer s H (XEnd K H F M XQ)) (xW K H F M fun C fs _ M' => XQ C fs M') :=
    (takes_of rfl rfl rfl rfl).imp fun cls d σ H' ⟨F', M', ρ', C, dx, vfs, fs, h1, h2, h3, t, _, rf, q⟩ => ⟨C, dx, F', M', vfs, fs, h1, h2, h3, t, rf, q⟩
  refine thn ((hb cdv A outer s H F (hr.deeper _)).run [] s1 (L2.start N vs) H F I (start_sim g rp) tk) fun fl s' hs => ?_
  cases fl with
  | ret u =>
    obtain ⟨v, σ', H', J, rv, F', M', d, t, rp', q⟩ := hs
    exact ⟨v, H', J.os, J.bare, J.base, J.hok, rv, F', M', d, t, rp', q⟩
  | next =>
    obtain ⟨σ', H', J, F', M', ρ', t, S', q⟩ := hs
    exact ⟨.non, H', J.os, J.bare, J.base, J.hok, rfl, F', M', .non, t, .non, q⟩
  | brk =>
    obtain ⟨_, _, _, _, _, _, _, _, q⟩ := hs
    exact False.elim q
  | cont =>
    obtain ⟨_, _, _, _, _, _, _, _, q⟩ := hs
    exact False.elim q
end

/-! ### try .. except X as n -/
theorem Sim.unset {K : PySem.W.Frag} {H F : Hp} {M : Mp} {σ : SS} {ρ : En} (S : Sim K H F M σ ρ) (i : Nat) : Sim K H F M (σ.set i none) (ρ.set i none) := by
  refine ⟨S.good, fun j e h => ?_, by rw [List.length_set, List.length_set]; exact S.len⟩
  by_cases hj : i = j
  · subst hj
    by_cases hi : i < ρ.length
    · rw [List.getElem?_set_self hi] at h; cases h
    · rw [List.getElem?_eq_none (by rw [List.length_set]; omega)] at h; cases h
  · rw [List.getElem?_set_ne hj] at h
    obtain ⟨u, h1, h2⟩ := S.slot j e h
    exact ⟨u, by rw [List.getElem?_set_ne hj]; exact h1, h2⟩
section
variable {X : Cx} {ρ : En} {M : Mp} {EX : XDX} {E : TEs} {body suite : List Stmt} {b₀ : Stmt} {pos pos' np : Pos} {L : Addr} {x n : Str}
theorem WS.tryAs (i : Nat) (hc : Names X x (.ref L)) (hN : X.N.Nodup) (h : ∀ pn xe, WSsX (X.tr pn xe) body ρ M E EX)
    (hm : ∀ C fs ρ' M', EX C fs ρ' M' → PySem.W.exmOne X.K (.ref C) (.ref L) = some true ∧ ∀ a dx oe pn, Zc (.ref C) (some dx) oe → (∃ vs, oe.data = .fields vs) →
      WSs (X.suite a ((a, oe) :: pn)) (b₀ :: suite) (ρ'.set i (some (.xn a dx fs))) M' { nx := fun ρ2 M2 => E.nx (ρ2.set i none) M2, rt := E.rt, bk := fun ρ2 M2 => E.bk (ρ2.set i none) M2, ct := fun ρ2 M2 => E.ct (ρ2.set i none) M2 })
    (hs : X.stack = X.env :: X.outer := by rfl) (hf : X.env.frame = some X.env.locals := by rfl) (hi : X.N[i]? = some n := by rfl) (hln : X.env.kindOf n = some .local := by rfl) :
    WS X (.Try body [.ExceptHandler (some (.Name x np)) (some n) (b₀ :: suite) pos'] [] [] pos) ρ M E := by
  refine ⟨fun pins s σ H F I S => ?_⟩
  let tb : WX → TS := fun W D σ H => ∃ F M ρ E EX, Sim X.K H F M σ ρ ∧ (∀ pn xe, WSsX (X.tr pn xe) body ρ M E EX) ∧ (∀ c d σ' H', xW X.K H F M EX c d σ' H' → W c d σ' H') ∧
    (∀ σ' H', NEnd X H F M E.nx σ' H' → D.nx σ' H') ∧ (∀ v H', REnd X H F M E.rt v H' → D.rt v H') ∧ (∀ σ' H', NEnd X H F M E.bk σ' H' → D.bk σ' H') ∧ (∀ σ' H', NEnd X H F M E.ct σ' H' → D.ct σ' H')
  let ts : Addr → Value → Option Addr → TS := fun a cls d D σ H => ∃ F M ρ E, Sim X.K H F M σ ρ ∧ (∀ oe pn, Zc cls d oe → (∃ vs, oe.data = .fields vs) → WSs (X.suite a ((a, oe) :: pn)) (b₀ :: suite) ρ M E) ∧
    (∀ σ' H', NEnd X H F M E.nx σ' H' → D.nx σ' H') ∧ (∀ v H', REnd X H F M E.rt v H' → D.rt v H') ∧ (∀ σ' H', NEnd X H F M E.bk σ' H' → D.bk σ' H') ∧ (∀ σ' H', NEnd X H F M E.ct σ' H' → D.ct σ' H')
  refine (ps_try_as (i := i) (c := .ref L) (tb := tb) (ts := ts) (Wout := fun _ _ _ _ => False) hs hf hN hi hln hc takes0 (fun W pn xe tk hp => ⟨fun pins s σ H D I ⟨F, M, ρ, E, EX, S, h, hW, h1, h2, h3, h4⟩ => ?_⟩)
    (fun a oe cls d pn hz hv => ⟨fun pins s σ H D I ⟨F, M, ρ, E, S, h, h1, h2, h3, h4⟩ => ?_⟩)).run pins s σ H (E.ends X H F M) I ⟨F, M, ρ, E, EX, S, h, ?_, fun _ _ q => q, fun _ _ q => q, fun _ _ q => q, fun _ _ q => q⟩
  · exact thn ((h pn xe).run pins s σ H F I S (tk.imp hW)) fun _ _ q => SP.imp q h1 h2 h3 h4
  · exact thn ((h oe pn hz hv).run pins s σ H F I S) fun _ _ q => SP.imp q h1 h2 h3 h4
  · rintro c d σ' H' ⟨F', M', ρ', C, dx, vfs, fs, rfl, rfl, hx, t, S', rf, q⟩
    obtain ⟨k1, k2⟩ := hm C fs ρ' M' q
    refine ⟨true, k1, fun _ a ha => ?_, fun z => by cases z⟩
    refine ⟨F', M', _, _, S'.set i (.xn (a := a) hx rf), fun oe pn hz hv => k2 a dx oe pn hz hv, ?_, ?_, ?_, ?_⟩
    · rintro σ2 H2 ⟨F2, M2, ρ2, t2, S2, q2⟩
      exact ⟨F2, M2, _, t.trans t2, S2.unset i, q2⟩
    · exact fun v H2 q2 => q2.back t
    · rintro σ2 H2 ⟨F2, M2, ρ2, t2, S2, q2⟩
      exact ⟨F2, M2, _, t.trans t2, S2.unset i, q2⟩
    · rintro σ2 H2 ⟨F2, M2, ρ2, t2, S2, q2⟩
      exact ⟨F2, M2, _, t.trans t2, S2.unset i, q2⟩
end
/-! ### what the suite reads -/
section
variable {X : Cx} {ρ : En} {M : Mp} {Q : DQ} {a dx C : Addr} {oe : Obj} {pn : Pins} {e : Expr} {n : Str} {pos : Pos}
/-- e.f -/
theorem WE.xf (T : XfC X.K C) (hno : PySem.W.findIn X.K (.ref C) n = some none) (hz : Zc (.ref C) (some dx) oe) (hf : ∃ vs, oe.data = .fields vs) (h : WE (X.suite a ((a, oe) :: pn)) e ρ M fun z M1 => ∃ fs d, z = .xn a dx fs ∧ fs.lookup n = some d ∧ Q d M1)
    (hb : attributeBase e n X.env (eval e X.env) = eval e X.env := by rfl) : WE (X.suite a ((a, oe) :: pn)) (.Attribute e n pos) ρ M Q := by
  refine .pe (pe_xf T hno hz hf (lTE_ok (X := X.suite a ((a, oe) :: pn)) (e := e)) hb) fun σ H F S => ⟨F, M, ρ, _, S, h, fun v H1 ⟨F1, M1, z, t, rp, fs, d, ez, l, q⟩ => ?_⟩
  subst ez
  cases rp with
  | xn hx rf =>
    obtain ⟨v', l', rv⟩ := rf.lookup l
    exact ⟨rfl, rfl, dx, _, v', rfl, t.good.sub _ _ hx, l', F1, M1, d, t, rv, q⟩
/-- isinstance(e, L) -/
theorem VC.isE {L : Addr} {fs : List (Str × D)} {b : Bool} (T : L2.ExcC X.K C) (hz : Zc (.ref C) (some dx) oe) (hf : ∃ vs, oe.data = .fields vs) (hk : PySem.W.kitOne X.K (.ref C) (.ref L) = some b) (h : Q (.bl b) M) :
    VC (X.suite a ((a, oe) :: pn)) (.builtin "isinstance") [.xn a dx fs, .ref L] M Q := by
  intro pins s σ H F vs us I R r1 p1
  cases p1 with
  | cons p1 p2 =>
    cases p2 with
    | cons p2 p3 =>
      cases p3
      cases p1 with
      | @xn _ _ vfs _ hx rf =>
        cases p2
        cases r1 with
        | cons r1 r2 =>
          cases r2 with
          | cons r2 r3 =>
            cases r3
            cases r1
            cases r2
            obtain ⟨hget, _⟩ := I.pin (a, oe) (List.mem_append.mpr (.inl List.mem_cons_self))
            obtain ⟨ws, hv⟩ := hf
            have hxd : ObjOk X.prog X.w H s.heap dx (.xd vfs) := I.hok dx _ (R.sub _ _ hx)
            obtain ⟨mA, hns, hr⟩ := hxd
            obtain ⟨od, ho, hl⟩ := lookIn_ns hns
            have J : PySem.W.InstAt s.heap a oe C (some od) := ⟨hget, hz.1, by unfold PySem.W.notCls; rw [hv] <;> rfl, by rw [hz.2]; exact ho⟩
            have hcl : (PySem.W.clsIn X.K C).isSome = true := by
              obtain ⟨cd, hc, _⟩ := PySem.W.any_some T.hd
              rw [hc]
              rfl
            exact PySem.W.kia_one (PySem.W.kitx_exc hcl T.hg T.hk T.hs T.ha T.hn T.ht T.hm) I.kIn J hk (fun z => nomatch z) fun tk => ⟨.bl b, H, F, M, _, I.kept (t' := tk) fun _ _ z => z, rfl, Stp.refl R, .bl b, h⟩
end
end TL
end
section
set_option maxRecDepth 100000
set_option maxHeartbeats 2000000
/-! TZ: list(zip(a, b)) of two tuples: each pair is kept, so zip makes a new one each time. -/
namespace ZL
open PySem PySem.W PySem.Calls PyProof.Rows
open PySem.Sem (wp)
abbrev zO (T : Addr) (f : Bool) (TI TO : Addr) : Obj := { cls := .type "zip", dict := none, data := .fields #[rawInt T, .bool f, .bool false, .ref TI, .ref TO], slots := #[] }
section
variable {prog : Program} {w : World} {A : Around} {E : Value → Shared → Prop} {s : Shared}
/-- the pair that it gave out lives on -/
theorem free_no {z TI TO T : Addr} {f : Bool} {oT : Obj} {Q : Bool → Shared → Prop} (hz : s.heap.get? z = some (zO T f TI TO)) (hT : s.heap.get? T = some oT)
    (h : ∀ h', h'.get? z = some (zO T true TI TO) → Heap.SameBut z s.heap h' → Q false { s with heap := h' }) : wpAny (model prog w) A (Builtin.SmallTypes.ownedTupleIsFree (.ref z)) Q E s := by
  unfold Builtin.SmallTypes.ownedTupleIsFree
  refine wpAny_bind (wpAny_field hz rfl (x := rawInt T) rfl ?_)
  show wpAny _ _ (loadIfAlive ((T : Int).toNat) >>= _) _ _ _
  rw [Int.toNat_natCast]
  refine wpAny_bind (kdx_alive hT ?_)
  simp only [Option.isNone_some, Bool.false_eq_true, if_false]
  refine wpAny_bind (wpAny_field hz rfl (x := .bool f) rfl ?_)
  cases f with
  | true =>
    rw [if_neg (show ¬ ((Value.bool true != Value.bool true) = true) from Bool.false_ne_true)]
    exact wpAny_pure (h _ hz (Heap.SameBut.refl _ _))
  | false =>
    rw [if_pos (show (Value.bool false != Value.bool true) = true from rfl)]
    exact wpAny_bind (wpAny_setField_rec hz (by simp) fun h' hz' hs' => wpAny_pure (h h' hz' hs'))

theorem out_item {z TI TO i1 i2 l1 l2 T : Addr} {k1 k2 : Nat} {xs ys : Array Value} {x y : Value} {f : Bool} {oT : Obj} {Q : Value → Shared → Prop} (D : ZipApart z TI TO i1 i2 l1 l2)
    (hz : s.heap.get? z = some (zO T f TI TO)) (hT : s.heap.get? T = some oT) (hTI : IsPair s.heap TI (.ref i1) (.ref i2))
    (h1 : s.heap.IsTupleIter i1 l1 k1) (h2 : s.heap.IsTupleIter i2 l2 k2) (hl1 : s.heap.IsTuple l1 xs) (hl2 : s.heap.IsTuple l2 ys) (hx : xs[k1]? = some x) (hy : ys[k2]? = some y)
    (hQ : ∀ h', h'.get? z = some (zO T true TI TO) → h'.IsTupleIter i1 l1 (k1 + 1) → h'.IsTupleIter i2 l2 (k2 + 1) → IsPair h' s.heap.objs.size x y → h'.objs.size = s.heap.objs.size + 1 →
      (∀ c o, c ≠ z → c ≠ i1 → c ≠ i2 → s.heap.get? c = some o → h'.get? c = some o) → Q (.ref s.heap.objs.size) { s with heap := h' }) :
    wpAny (model prog w) A (Builtin.«zip.__next__» ⟨[.ref z], []⟩) (fun fin s' => ∃ v, fin = .done (.ret v) ∧ Q v s') E s := by
  show wpAny _ _ (field (.ref z) 2 >>= _) _ _ _
  refine wpAny_bind (wpAny_field hz rfl (x := .bool false) rfl ?_)
  show wpAny _ _ (field (.ref z) 3 >>= _) _ _ _
  refine wpAny_bind (wpAny_field hz rfl (x := .ref TI) rfl ?_)
  refine wpAny_bind (wpAny_seqItems hTI rfl ?_)
  show wpAny _ _ (Builtin.SmallTypes.ownedTupleIsFree (.ref z) >>= _) _ _ _
  refine wpAny_bind (free_no hz hT fun ha hza sa => ?_)
  simp only [Bool.false_eq_true, if_false]
  rw [← Array.forIn_toList]
  refine wpAny_bind ?_
  simp only [List.forIn_cons, List.forIn_nil]
  refine wpAny_bind (wpAny_bind (wpAny_holding ?_))
  show wpAny _ _ (Builtin.SmallTypes.nextOf (.ref i1) >>= _) _ _ _
  refine wpAny_bind (RZ.nextOf_tuple_item (h1.extBut sa.extBut D.i1z) (hl1.extBut sa.extBut D.l1z) hx fun hb h1b sb => wpAny_pure ?_)
  refine wpAny_pure ?_
  dsimp only
  refine wpAny_bind (wpAny_bind (wpAny_holding ?_))
  show wpAny _ _ (Builtin.SmallTypes.nextOf (.ref i2) >>= _) _ _ _
  refine wpAny_bind (RZ.nextOf_tuple_item ((h2.extBut sa.extBut D.i2z).extBut sb.extBut D.i12.symm) ((hl2.extBut sa.extBut D.l2z).extBut sb.extBut D.l2i1) hy fun hc h2c sc => wpAny_pure ?_)
  refine wpAny_pure ?_
  dsimp only
  refine wpAny_pure ?_
  dsimp only
  refine wpAny_bind (wpAny_newTuple (hsz := by simp [sizeLine_eq]) ?_)
  have sz : hc.objs.size = s.heap.objs.size := by rw [sc.1, sb.1, sa.1]
  have kp : ∀ c o, c ≠ z → c ≠ i1 → c ≠ i2 → s.heap.get? c = some o → hc.get? c = some o := fun c o c1 c2 c3 e => sc.extBut _ _ c3 (sb.extBut _ _ c2 (sa.extBut _ _ c1 e))
  have hzc : hc.get? z = some (zO T true TI TO) := sc.extBut _ _ D.i2z.symm (sb.extBut _ _ D.i1z.symm hza)
  have h1c : hc.IsTupleIter i1 l1 (k1 + 1) := h1b.extBut sc.extBut D.i12
  refine wpAny_pure ⟨_, rfl, ?_⟩
  show Q (.ref hc.objs.size) _
  rw [sz]
  refine hQ _ (Heap.get?_push_of_some _ hzc) (h1c.at fun o e => Heap.get?_push_of_some _ e) (h2c.at fun o e => Heap.get?_push_of_some _ e) ?_ (by rw [Heap.size_push, sz]) fun c o c1 c2 c3 e => Heap.get?_push_of_some _ (kp c o c1 c2 c3 e)
  rw [← sz]
  exact Heap.get?_push_size _ rfl
theorem out_end {z TI TO i1 i2 l1 l2 T : Addr} {k1 k2 : Nat} {xs ys : Array Value} {f : Bool} {oT : Obj} {Q : Fin → Shared → Prop} (hh : A.handled = none) (D : ZipApart z TI TO i1 i2 l1 l2)
    (hz : s.heap.get? z = some (zO T f TI TO)) (hT : s.heap.get? T = some oT) (hTI : IsPair s.heap TI (.ref i1) (.ref i2))
    (h1 : s.heap.IsTupleIter i1 l1 k1) (h2 : s.heap.IsTupleIter i2 l2 k2) (hl1 : s.heap.IsTuple l1 xs) (hl2 : s.heap.IsTuple l2 ys) (hend : xs[k1]? = none ∨ ys[k2]? = none)
    (hE : ∀ h' e, (∀ c o, c ≠ z → c ≠ i1 → c ≠ i2 → s.heap.get? c = some o → h'.get? c = some o) → (∃ o, h'.get? e = some o ∧ o.cls = .type "StopIteration") → E (.ref e) { s with heap := h' }) :
    wpAny (model prog w) A (Builtin.«zip.__next__» ⟨[.ref z], []⟩) Q E s := by
  show wpAny _ _ (field (.ref z) 2 >>= _) _ _ _
  refine wpAny_bind (wpAny_field hz rfl (x := .bool false) rfl ?_)
  show wpAny _ _ (field (.ref z) 3 >>= _) _ _ _
  refine wpAny_bind (wpAny_field hz rfl (x := .ref TI) rfl ?_)
  refine wpAny_bind (wpAny_seqItems hTI rfl ?_)
  show wpAny _ _ (Builtin.SmallTypes.ownedTupleIsFree (.ref z) >>= _) _ _ _
  refine wpAny_bind (free_no hz hT fun ha hza sa => ?_)
  simp only [Bool.false_eq_true, if_false]
  rw [← Array.forIn_toList]
  refine wpAny_bind ?_
  simp only [List.forIn_cons, List.forIn_nil]
  refine wpAny_bind (wpAny_bind (wpAny_holding ?_))
  show wpAny _ _ (Builtin.SmallTypes.nextOf (.ref i1) >>= _) _ _ _
  cases hx : xs[k1]? with
  | none => exact wpAny_bind (RZ.nextOf_tuple_end hh (h1.extBut sa.extBut D.i1z) (hl1.extBut sa.extBut D.l1z) hx fun hb e sb he => hE hb e (fun c o c1 c2 _ x => sb _ _ c2 (sa.extBut _ _ c1 x)) he)
  | some x =>
    have hy : ys[k2]? = none := by
      rcases hend with h | h
      · rw [hx] at h; cases h
      · exact h
    refine wpAny_bind (RZ.nextOf_tuple_item (h1.extBut sa.extBut D.i1z) (hl1.extBut sa.extBut D.l1z) hx fun hb h1b sb => wpAny_pure ?_)
    refine wpAny_pure ?_
    dsimp only
    refine wpAny_bind (wpAny_bind (wpAny_holding ?_))
    show wpAny _ _ (Builtin.SmallTypes.nextOf (.ref i2) >>= _) _ _ _
    exact wpAny_bind (RZ.nextOf_tuple_end hh ((h2.extBut sa.extBut D.i2z).extBut sb.extBut D.i12.symm) ((hl2.extBut sa.extBut D.l2z).extBut sb.extBut D.l2i1) hy fun hc e sc he =>
      hE hc e (fun c o c1 c2 c3 x => sc _ _ c3 (sb.extBut _ _ c2 (sa.extBut _ _ c1 x))) he)

/-- where zip stands: nothing given out yet, or the last pair lives on -/
structure St (h : Heap) (S z TI TO i1 i2 l1 l2 : Addr) (k : Nat) (xs ys : Array Value) : Prop where
  st : (IsZip h z TI TO .none ∧ ∃ a b, IsPair h TO a b) ∨ ∃ T f oT, h.get? z = some (zO T f TI TO) ∧ h.get? T = some oT ∧ T ≠ z ∧ T ≠ S ∧ T ≠ TO ∧ T ≠ i1 ∧ T ≠ i2
  pTI : IsPair h TI (.ref i1) (.ref i2)
  h1 : h.IsTupleIter i1 l1 k
  h2 : h.IsTupleIter i2 l2 k
  t1 : h.IsTuple l1 xs
  t2 : h.IsTuple l2 ys
structure Far (S z TI TO i1 i2 l1 l2 : Addr) : Prop where
  Sz : z ≠ S
  STI : TI ≠ S
  STO : TO ≠ S
  S1 : i1 ≠ S
  S2 : i2 ≠ S
  Sl : l1 ≠ S
  Sm : l2 ≠ S
theorem St.keep {h h' : Heap} {S z TI TO i1 i2 l1 l2 : Addr} {k : Nat} {xs ys : Array Value} (Z : St h S z TI TO i1 i2 l1 l2 k xs ys) (f : Far S z TI TO i1 i2 l1 l2) (hk : ∀ b o, b ≠ S → h.get? b = some o → h'.get? b = some o) : St h' S z TI TO i1 i2 l1 l2 k xs ys where
  st := by
    rcases Z.st with ⟨a, x, y, b⟩ | ⟨T, g, oT, a, b, c, d, e⟩
    · exact .inl ⟨hk _ _ f.Sz a, x, y, hk _ _ f.STO b⟩
    · exact .inr ⟨T, g, oT, hk _ _ f.Sz a, hk _ _ d b, c, d, e⟩
  pTI := hk _ _ f.STI Z.pTI
  h1 := Z.h1.at fun o e => hk _ o f.S1 e
  h2 := Z.h2.at fun o e => hk _ o f.S2 e
  t1 := Z.t1.at fun o e => hk _ o f.Sl e
  t2 := Z.t2.at fun o e => hk _ o f.Sm e
theorem next_item {S z TI TO i1 i2 l1 l2 : Addr} {k : Nat} {xs ys : Array Value} {x y : Value} {Q : Option Value → Shared → Prop} (D : ZipApart z TI TO i1 i2 l1 l2) (Z : St s.heap S z TI TO i1 i2 l1 l2 k xs ys) (hS : S < s.heap.objs.size) (hx : xs[k]? = some x) (hy : ys[k]? = some y)
    (hQ : ∀ h', St h' S z TI TO i1 i2 l1 l2 (k + 1) xs ys → IsPair h' s.heap.objs.size x y → h'.objs.size = s.heap.objs.size + 1 → (∀ c o, c ≠ z → c ≠ TO → c ≠ i1 → c ≠ i2 → s.heap.get? c = some o → h'.get? c = some o) →
      Q (some (.ref s.heap.objs.size)) { s with heap := h' }) : wpAny (model prog w) A (pyNext (.ref z)) Q E s := by
  have up : ∀ {c o}, s.heap.get? c = some o → s.heap.objs.size ≠ c := fun e => Nat.ne_of_gt (Heap.lt_size e)
  have l1 : s.heap.objs.size ≠ i1 := by obtain ⟨_, e, _⟩ := Z.h1; exact up e
  have l2 : s.heap.objs.size ≠ i2 := by obtain ⟨_, e, _⟩ := Z.h2; exact up e
  rcases Z.st with ⟨hz, a, b, hTO⟩ | ⟨T, f, oT, hz, hT, n1, n2, n3, n4, n5⟩
  · refine RZ.pyNext_zipT_item D hz Z.pTI hTO Z.h1 Z.h2 Z.t1 Z.t2 hx hy fun h' a1 a2 a3 a4 a5 a6 a7 => hQ h' ⟨.inr ⟨s.heap.objs.size, false, _, a1, a5, up hz, Nat.ne_of_gt hS, up hTO, l1, l2⟩, a7 _ _ D.TIz D.TITO D.TIi1 D.TIi2 Z.pTI, a3, a4,
      Z.t1.at fun o e => a7 _ o D.l1z D.l1TO D.l1i1 D.l1i2 e, Z.t2.at fun o e => a7 _ o D.l2z D.l2TO D.l2i1 D.l2i2 e⟩ a5 a6 a7
  · have tz : s.TypeIs (.ref z) "zip" := ⟨_, hz, rfl⟩
    unfold pyNext
    refine wpAny_bind (wpAny_attempt (wpAny_callSpecial?_slot (name := Str.ofString "__next__") tz F.slot_zip_next (wpAny_call_entry F.slot_zip_next tz F.entry_zip_next
      (out_item D hz hT Z.pTI Z.h1 Z.h2 Z.t1 Z.t2 hx hy fun h' a1 a3 a4 a5 a6 a7 => wpAny_pure (hQ h' ⟨.inr ⟨T, true, oT, a1, a7 _ _ n1 n4 n5 hT, n1, n2, n3, n4, n5⟩, a7 _ _ D.TIz D.TIi1 D.TIi2 Z.pTI, a3, a4,
        Z.t1.at fun o e => a7 _ o D.l1z D.l1i1 D.l1i2 e, Z.t2.at fun o e => a7 _ o D.l2z D.l2i1 D.l2i2 e⟩ a5 a6 fun c o c1 _ c3 c4 e => a7 c o c1 c3 c4 e)) (F.args_zip_next_1 _))))
theorem next_end {S z TI TO i1 i2 l1 l2 : Addr} {k : Nat} {xs ys : Array Value} {Q : Option Value → Shared → Prop} (hh : A.handled = none) (D : ZipApart z TI TO i1 i2 l1 l2) (Z : St s.heap S z TI TO i1 i2 l1 l2 k xs ys) (hend : xs[k]? = none ∨ ys[k]? = none)
    (hQ : ∀ h', (∀ c o, c ≠ z → c ≠ TO → c ≠ i1 → c ≠ i2 → s.heap.get? c = some o → h'.get? c = some o) → Q none { s with heap := h' }) : wpAny (model prog w) A (pyNext (.ref z)) Q E s := by
  rcases Z.st with ⟨hz, a, b, hTO⟩ | ⟨T, f, oT, hz, hT, n1, n2, n3, n4, n5⟩
  · exact RZ.pyNext_zipT_end hh D hz Z.pTI hTO Z.h1 Z.h2 Z.t1 Z.t2 hend hQ
  · have tz : s.TypeIs (.ref z) "zip" := ⟨_, hz, rfl⟩
    unfold pyNext
    refine wpAny_bind (wpAny_attempt (wpAny_callSpecial?_slot (name := Str.ofString "__next__") tz F.slot_zip_next (wpAny_call_entry F.slot_zip_next tz F.entry_zip_next
      (out_end hh D hz hT Z.pTI Z.h1 Z.h2 Z.t1 Z.t2 hend fun h' e hk he => ?_) (F.args_zip_next_1 _))))
    obtain ⟨o, ho, hc⟩ := he
    refine wpAny_bind (wpAny_isInstance (T := "StopIteration") (b := true) ⟨o, ho, hc⟩ isSubtype_stop ?_)
    exact wpAny_pure (hQ _ fun c o c1 _ c3 c4 x => hk c o c1 c3 c4 x)
end
/-- the pairs that were made -/
structure Prs (lo : Addr) (h : Heap) (as : List Addr) (xs ys : Array Value) : Prop where
  rise : as.Pairwise (· < ·)
  above : ∀ a ∈ as, lo < a
  pairs : ∀ (j : Nat) (a : Addr), as[j]? = some a → ∃ x y, xs[j]? = some x ∧ ys[j]? = some y ∧ IsPair h a x y
section
variable {prog : Program} {w : World} {A : Around} {s : Shared} {R : Result → Shared → Prop} {S z TI TO i1 i2 l1 l2 : Addr} {xs ys : Array Value}
theorem zip_no_len : typeLookup (.type "zip") "__len__" = pure none := by rw [typeLookup_type, builtinLookup_eq_fast]; kernel_rfl
theorem zip_no_hint : typeLookup (.type "zip") "__length_hint__" = pure none := by rw [typeLookup_type, builtinLookup_eq_fast]; kernel_rfl
theorem Prs.there {lo : Addr} {h : Heap} {as : List Addr} (g : Prs lo h as xs ys) {a : Addr} (ha : a ∈ as) : a < h.objs.size := by
  obtain ⟨j, hj⟩ := List.mem_iff_getElem?.mp ha
  obtain ⟨_, _, _, _, e⟩ := g.pairs j a hj
  exact Heap.lt_size e
theorem loop (hh : A.handled = none) (D : ZipApart z TI TO i1 i2 l1 l2) (Fa : Far S z TI TO i1 i2 l1 l2) (hsz : xs.size = ys.size) (hn : xs.size ≤ sizeLine) (res : Value) {h1 : Heap} {lo : Addr} (hlo : S ≤ lo) (hz : z ≤ lo) (hTO : TO ≤ lo) (hi1 : i1 ≤ lo) (hi2 : i2 ≤ lo)
    (hR : ∀ h' tk acc c as, (∀ b o, b ≠ S → b ≠ z → b ≠ TO → b ≠ i1 → b ≠ i2 → h1.get? b = some o → h'.get? b = some o) → h'.get? S = some { cls := .type "list", dict := none, data := .seq acc c, slots := #[] } → as.length = xs.size → Prs lo h' as xs ys →
      acc.toList = as.map Value.ref → R (.ok (.ret res)) { s with heap := h', toks := tk }) :
    ∀ (k i : Nat) (h : Heap) (tk c : Nat) (acc : Array Value) (as : List Addr), xs.size - i = k → i ≤ xs.size → St h S z TI TO i1 i2 l1 l2 i xs ys → (∀ b o, b ≠ S → b ≠ z → b ≠ TO → b ≠ i1 → b ≠ i2 → h1.get? b = some o → h.get? b = some o) →
      h.get? S = some { cls := .type "list", dict := none, data := .seq acc c, slots := #[] } → acc.toList = as.map Value.ref → as.length = i → Prs lo h as xs ys → lo < h.objs.size →
      codeAny (model prog w) A (.builtin "list.extend.loop" ⟨[.ref S, .ref z, res], []⟩) R { s with heap := h, toks := tk } := by
  intro k
  induction k with
  | zero =>
    intro i h tk c acc as hk hi Z hkp hS hacc hal hG hIs
    have hin : i = xs.size := by omega
    refine codeAny_builtin PySem.F.entry_extend_loop ?_
    rw [Around.under_plainId PySem.F.plain_extend_loop _]
    show wpAny _ A.in1 (pyNext (.ref z) >>= _) _ _ _
    refine wpAny_bind (next_end (s := { s with heap := h, toks := tk }) (A := A.in1) hh D Z (.inl (Array.getElem?_eq_none (by omega))) fun h' he => ?_)
    refine wpAny_pure (hR h' tk acc c as (fun b o n1 n2 n3 n4 n5 e => he b o n2 n3 n4 n5 (hkp b o n1 n2 n3 n4 n5 e)) (he S _ Fa.Sz.symm Fa.STO.symm Fa.S1.symm Fa.S2.symm hS) (by omega) ⟨hG.rise, hG.above, fun j a hj => ?_⟩ hacc)
    obtain ⟨x, y, e1, e2, e3⟩ := hG.pairs j a hj
    have hb := hG.above a (List.mem_of_getElem? hj)
    have far : ∀ {c : Addr}, c ≤ lo → a ≠ c := fun q => Nat.ne_of_gt (Nat.lt_of_le_of_lt q hb)
    exact ⟨x, y, e1, e2, he a _ (far hz) (far hTO) (far hi1) (far hi2) e3⟩
  | succ k ih =>
    intro i h tk c acc as hk hi Z hkp hS hacc hal hG hIs
    have hlt : i < xs.size := by omega
    have hasz : acc.size = i := by rw [← Array.length_toList, hacc, List.length_map, hal]
    refine codeAny_builtin PySem.F.entry_extend_loop ?_
    rw [Around.under_plainId PySem.F.plain_extend_loop _]
    show wpAny _ A.in1 (pyNext (.ref z) >>= _) _ _ _
    have ex : xs[i]? = some xs[i] := Array.getElem?_eq_getElem hlt
    have ey : ys[i]? = some (ys[i]'(by omega)) := Array.getElem?_eq_getElem (by omega)
    refine wpAny_bind (next_item (s := { s with heap := h, toks := tk }) D Z (Heap.lt_size hS) ex ey fun h' Z' ht hz' hkn => ?_)
    dsimp only at ht hz' hkn ⊢
    have hS' := hkn S _ Fa.Sz.symm Fa.STO.symm Fa.S1.symm Fa.S2.symm hS
    have up : ∀ b o, b ≠ S → h'.get? b = some o → (h'.update S (Obj.mapSeq (·.push (Value.ref h.objs.size)))).get? b = some o := fun b o hb e => (Heap.get?_update_other _ _ (Ne.symm hb)).trans e
    have hSl : S < h.objs.size := Heap.lt_size hS
    show wpAny _ A.in1 (updateSeq S (·.push (Value.ref h.objs.size)) >>= _) _ _ _
    refine wpAny_bind ?_
    refine wpAny_updateSeq hS' rfl (wpAny_pure ⟨plainId_quiet PySem.F.plain_extend_loop _, ih (i + 1) _ tk _ (acc.push (Value.ref h.objs.size)) (as ++ [h.objs.size]) (by omega) hlt (Z'.keep Fa up)
      (fun b o n1 n2 n3 n4 n5 e => up b o n1 (hkn b o n2 n3 n4 n5 (hkp b o n1 n2 n3 n4 n5 e))) (Heap.get?_update_self _ hS' rfl) (by rw [Array.toList_push, hacc, List.map_append]; rfl) (by rw [List.length_append, hal]; rfl) ⟨?_, ?_, ?_⟩ ?_⟩) (by rw [hasz]; omega) (by show (acc.push (Value.ref h.objs.size)).size ≤ sizeLine + 1; rw [Array.size_push, hasz]; omega)
    · refine List.pairwise_append.mpr ⟨hG.rise, List.pairwise_singleton _ _, fun a ha b hb => ?_⟩
      rw [List.mem_singleton.mp hb]
      exact hG.there ha
    · intro a ha
      rcases List.mem_append.mp ha with ha | ha
      · exact hG.above a ha
      · rw [List.mem_singleton.mp ha]; exact hIs
    · intro j b hj
      rcases Nat.lt_trichotomy j as.length with q | q | q
      · rw [List.getElem?_append_left q] at hj
        obtain ⟨x, y, e1, e2, e3⟩ := hG.pairs j b hj
        have hb := hG.above b (List.mem_of_getElem? hj)
        have far : ∀ {c : Addr}, c ≤ lo → b ≠ c := fun q => Nat.ne_of_gt (Nat.lt_of_le_of_lt q hb)
        exact ⟨x, y, e1, e2, up b _ (far hlo) (hkn b _ (far hz) (far hTO) (far hi1) (far hi2) e3)⟩
      · subst q
        have hb : h.objs.size = b := by simpa using hj
        subst hb
        subst hal
        exact ⟨_, _, ex, ey, up _ _ (Nat.ne_of_gt hSl) ht⟩
      · have hnone : (as ++ [h.objs.size])[j]? = none := List.getElem?_eq_none (by rw [List.length_append, List.length_singleton]; omega)
        rw [hnone] at hj; cases hj
    · have e : (h'.update S (Obj.mapSeq (·.push (Value.ref h.objs.size)))).get? h.objs.size = _ := up _ _ (Nat.ne_of_gt hSl) ht
      exact Nat.lt_trans hIs (Heap.lt_size e)
theorem extend (hh : A.handled = none) (D : ZipApart z TI TO i1 i2 l1 l2) (Fa : Far S z TI TO i1 i2 l1 l2) (hsz : xs.size = ys.size) (hn : xs.size ≤ sizeLine) (res : Value) (c₀ : Nat) (hz : IsZip s.heap z TI TO .none) (hTI : IsPair s.heap TI (.ref i1) (.ref i2)) (hTO : IsPair s.heap TO .none .none)
    (h1 : s.heap.IsTupleIter i1 l1 0) (h2 : s.heap.IsTupleIter i2 l2 0) (t1 : s.heap.IsTuple l1 xs) (t2 : s.heap.IsTuple l2 ys) (hS : s.heap.get? S = some { cls := .type "list", data := .seq #[] c₀ }) {lo : Addr} (hlo : s.heap.objs.size = lo + 1)
    (hR : ∀ h' tk acc c as, (∀ b o, b ≠ S → b ≠ z → b ≠ TO → b ≠ i1 → b ≠ i2 → s.heap.get? b = some o → h'.get? b = some o) → h'.get? S = some { cls := .type "list", dict := none, data := .seq acc c, slots := #[] } → as.length = xs.size → Prs lo h' as xs ys →
      acc.toList = as.map Value.ref → R (.ok (.ret res)) { s with heap := h', toks := tk }) :
    wpAny (model prog w) A.in1 (Builtin.List.listExtendWith (.ref S) (.ref z) res)
      (fun fin s' => match fin with | .done f => R (.ok f) s' | .again c' => c'.quiet = true ∧ codeAny (model prog w) A c' R s') (fun e s' => R (.error e) s') s := by
  have tz : s.TypeIs (.ref z) "zip" := ⟨_, hz, rfl⟩
  have le : ∀ {b : Addr} {o : Obj}, s.heap.get? b = some o → b ≤ lo := fun {b o} e => by
    have q : b < s.heap.objs.size := Heap.lt_size e
    rw [hlo] at q
    exact Nat.le_of_lt_succ q
  have l1' : i1 ≤ lo := by obtain ⟨_, e, _⟩ := h1; exact le e
  have l2' : i2 ≤ lo := by obtain ⟨_, e, _⟩ := h2; exact le e
  have key : ∀ (h : Heap) (c₁ tk : Nat), h.objs.size = s.heap.objs.size → (∀ b o, b ≠ S → s.heap.get? b = some o → h.get? b = some o) → h.get? S = some { cls := .type "list", data := .seq #[] c₁ } → codeAny (model prog w) A (.builtin "list.extend.loop" ⟨[.ref S, .ref z, res], []⟩) R { s with heap := h, toks := tk } := by
    intro h c₁ tk hsame hk hS1
    have Z0 : St s.heap S z TI TO i1 i2 l1 l2 0 xs ys := ⟨.inl ⟨hz, _, _, hTO⟩, hTI, h1, h2, t1, t2⟩
    have big : lo < h.objs.size := by rw [hsame, hlo]; exact Nat.lt_succ_self _
    exact loop hh D Fa hsz hn res (h1 := s.heap) (le hS) (le hz) (le hTO) l1' l2' (fun h' tk' acc c as q1 q2 q3 q4 q5 => hR h' tk' acc c as q1 q2 q3 q4 q5) xs.size 0 h tk c₁ #[] [] (Nat.sub_zero _) (Nat.zero_le _) (Z0.keep Fa hk)
      (fun b o n1 _ _ _ _ e => hk b o n1 e) hS1 rfl rfl ⟨List.Pairwise.nil, (fun _ ha => nomatch ha), (fun j a hj => by simp at hj)⟩ big
  unfold Builtin.List.listExtendWith
  refine wpAny_bind (wpAny_typeOf (T := "zip") tz ?_)
  have e1 : Builtin.List.listSameRef (.ref S) (.ref z) = false := by simp [Builtin.List.listSameRef, Fa.Sz.symm]
  have e2 : (Value.type "zip" == Value.type "list") = false := by decide
  have e3 : (Value.type "zip" == Value.type "tuple") = false := by decide
  simp only [e1, e2, e3, Bool.or_false, Bool.false_eq_true, if_false]
  refine wpAny_bind (wpAny_pyIter_zip hz ?_)
  refine wpAny_bind (wpAny_holding ?_)
  unfold Builtin.List.listLengthHint
  refine wpAny_bind (wpAny_specialOf tz zip_no_len ?_)
  show wpAny _ A.in1 (specialOf (Value.ref z) (Str.ofString "__length_hint__") >>= _) _ _ _
  refine wpAny_bind (wpAny_specialOf tz zip_no_hint ?_)
  refine wpAny_pure ?_
  show wpAny _ A.in1 (rule "list.extend.makes-room" >>= fun _ => Builtin.List.listTouch (.ref S) >>= fun _ => again (.builtin "list.extend.loop" ⟨[.ref S, .ref z, res], []⟩)) _ _ _
  refine wpAny_bind (wpAny_rule ?_)
  refine wpAny_bind ?_
  show wpAny _ A.in1 (updateSeq S (·.push .none) >>= fun _ => updateSeq S (·.pop)) _ _ _
  refine wpAny_bind (wpAny_updateSeq hS rfl ?_)
  have hSa := Heap.get?_update_self (Obj.mapSeq (·.push Value.none)) hS rfl
  refine wpAny_updateSeq (hz := by seq_fits) hSa rfl ?_
  have hSb := Heap.get?_update_self (Obj.mapSeq (·.pop)) hSa rfl
  refine wpAny_pure ⟨plainId_quiet PySem.F.plain_extend_loop _, key _ _ _ ?_ (fun b o hb e => ?_) hSb⟩
  · exact (Heap.SameBut.update ..).1.trans (Heap.SameBut.update ..).1
  · exact (Heap.get?_update_other _ _ (Ne.symm hb)).trans ((Heap.get?_update_other _ _ (Ne.symm hb)).trans e)
theorem call_list (hh : A.handled = none) {a b : Addr} (hsz : xs.size = ys.size) (hn : xs.size ≤ sizeLine) {s0 : Shared} {h : Heap} {E : Value → Shared → Prop} {Q : Value → Shared → Prop} (es : s = { s0 with heap := h }) (n0 : h.objs.size = s0.heap.objs.size + 5)
    (hz : IsZip h (s0.heap.objs.size + 4) (s0.heap.objs.size + 2) (s0.heap.objs.size + 3) .none) (hTI : IsPair h (s0.heap.objs.size + 2) (.ref s0.heap.objs.size) (.ref (s0.heap.objs.size + 1))) (hTO : IsPair h (s0.heap.objs.size + 3) .none .none)
    (h1 : h.IsTupleIter s0.heap.objs.size a 0) (h2 : h.IsTupleIter (s0.heap.objs.size + 1) b 0) (t1 : h.IsTuple a xs) (t2 : h.IsTuple b ys) (la : a < s0.heap.objs.size) (lb : b < s0.heap.objs.size)
    (hQ : ∀ h' tk acc c as, (∀ b o, s0.heap.get? b = some o → h.get? b = some o → h'.get? b = some o) → h'.get? (s0.heap.objs.size + 5) = some { cls := .type "list", dict := none, data := .seq acc c, slots := #[] } → as.length = xs.size → Prs (s0.heap.objs.size + 5) h' as xs ys →
      acc.toList = as.map Value.ref → Q (.ref (s0.heap.objs.size + 5)) { s0 with heap := h', toks := tk }) :
    wpAny (model prog w) A (call (.type "list") [.ref (s0.heap.objs.size + 4)]) Q E s := by
  subst es
  have nS : s0.heap.objs.size + 5 = h.objs.size := n0.symm
  rw [nS] at hQ
  refine callType_codes (Q₁ := fun obj s₁ => obj = .ref h.objs.size ∧ s₁ = { s0 with heap := h.push { cls := .type "list", data := .seq #[] } }) PySem.F.called_list (PySem.F.typeCall_list_1 _) PySem.F.entry_list_init
    (code_list_new _ ⟨rfl, rfl⟩) fun obj s₁ h₁ => ?_
  obtain ⟨rfl, rfl⟩ := h₁
  have hS : (h.push { cls := .type "list", data := .seq #[] }).get? h.objs.size = some { cls := .type "list", data := .seq #[] } := Heap.get?_push_size _ rfl
  refine ⟨⟨_, hS, rfl⟩, PySem.F.args_list_init_2 _ _, ?_⟩
  show wpAny _ _ (do let old ← Builtin.List.listItems (.ref h.objs.size); Builtin.List.listUpdate (.ref h.objs.size) (fun _ => #[]); letGo old.toList.reverse; Builtin.List.listExtendWith (.ref h.objs.size) (.ref (s0.heap.objs.size + 4)) .none) _ _ _
  refine wpAny_bind ?_
  unfold Builtin.List.listItems
  refine wpAny_bind (wpAny_seqItems hS rfl (wpAny_pure ?_))
  show wpAny _ _ (updateSeq h.objs.size (fun _ => #[]) >>= fun _ => letGo (#[] : Array Value).toList.reverse >>= fun _ => Builtin.List.listExtendWith (.ref h.objs.size) (.ref (s0.heap.objs.size + 4)) .none) _ _ _
  refine wpAny_bind (wpAny_updateSeq hS rfl ?_)
  have hS2 := Heap.get?_update_self (Obj.mapSeq (fun _ => (#[] : Array Value))) hS rfl
  have oth : ∀ b o, h.get? b = some o → ((h.push { cls := .type "list", data := .seq #[] }).update h.objs.size (Obj.mapSeq (fun _ => (#[] : Array Value)))).get? b = some o := fun b o e =>
    (Heap.get?_update_other _ _ (Nat.ne_of_gt (Heap.lt_size e))).trans (Heap.get?_push_of_some _ e)
  refine wpAny_bind (wpAny_letGo ?_)
  have D := PySem.W.ktu_apart s0.heap.objs.size a b la lb
  have nz : ∀ i, i < 5 → s0.heap.objs.size + i ≠ h.objs.size := fun i hi q => by omega
  have Fa : Far h.objs.size (s0.heap.objs.size + 4) (s0.heap.objs.size + 2) (s0.heap.objs.size + 3) s0.heap.objs.size (s0.heap.objs.size + 1) a b :=
    ⟨nz 4 (by omega), nz 2 (by omega), nz 3 (by omega), nz 0 (by omega), nz 1 (by omega), Nat.ne_of_lt (Nat.lt_of_lt_of_le la (by omega)), Nat.ne_of_lt (Nat.lt_of_lt_of_le lb (by omega))⟩
  refine extend (A := A.in1) (lo := h.objs.size) hh D Fa hsz hn .none _ (oth _ _ hz) (oth _ _ hTI) (oth _ _ hTO) (h1.at fun o e => oth _ o e) (h2.at fun o e => oth _ o e) (t1.at fun o e => oth _ o e) (t2.at fun o e => oth _ o e) hS2 ?_ fun h' tk acc c as hk hS' hl hG hacc => ?_
  · exact (Heap.SameBut.update ..).1.trans (Heap.size_push ..)
  · refine ⟨rfl, hQ h' tk acc c as (fun b o e0 e => ?_) hS' hl hG hacc⟩
    have lt : b < s0.heap.objs.size := Heap.lt_size e0
    have nn : ∀ i, b ≠ s0.heap.objs.size + i := fun i => Nat.ne_of_lt (Nat.lt_of_lt_of_le lt (Nat.le_add_right _ _))
    exact hk b o (by rw [← nS]; exact nn 5) (nn 4) (nn 3) (nn 0) (nn 1) (oth b o e)
end
end ZL
end
section
set_option maxRecDepth 100000
/-! TM: dicts, over tree values. -/
namespace TL
open PySem PySem.Spec PyProof.Rows L2

def lookK {α : Type} (kvs : List (Key × α)) (k : Key) : Option α := (kvs.find? fun kv => decide (kv.1 = k)).map (·.2)
def putG {α : Type} (kvs : List (Key × α)) (k : Key) (v : α) : List (Key × α) :=
  if (kvs.any fun kv => decide (kv.1 = k)) = true then kvs.map (fun kv => if kv.1 = k then (kv.1, v) else kv) else kvs ++ [(k, v)]
section
variable {K : PySem.W.Frag} {F : Hp} {vs : List (Key × V)} {ds : List (Key × D)} {k : Key}
theorem RepK.look (r : RepK K F vs ds) {d : D} (h : lookK ds k = some d) : ∃ v, valV vs k = some v ∧ Rep K F v d := by
  induction vs generalizing ds with
  | nil => cases r; cases h
  | cons p vs ih =>
    cases r with
    | @cons k' v _ d' ds' a r =>
      by_cases e : k' = k
      · subst e
        simp [lookK] at h
        subst h
        exact ⟨v, by simp [valV], a⟩
      · simp [lookK, e] at h
        obtain ⟨v', hv, rv⟩ := ih r (by simpa [lookK] using h)
        exact ⟨v', by simpa [valV, e] using hv, rv⟩
theorem RepK.lookN (r : RepK K F vs ds) (h : lookK ds k = none) : valV vs k = none := by
  induction vs generalizing ds with
  | nil => rfl
  | cons p vs ih =>
    cases r with
    | @cons k' v _ d' ds' a r =>
      by_cases e : k' = k
      · subst e
        simp [lookK] at h
      · simp [lookK, e] at h
        have := ih r (by simpa [lookK] using h)
        simpa [valV, e] using this
theorem RepK.isSome (r : RepK K F vs ds) : (valV vs k).isSome = (lookK ds k).isSome := by
  cases h : lookK ds k with
  | none => rw [r.lookN h]; rfl
  | some d => obtain ⟨v, hv, _⟩ := r.look h; rw [hv]; rfl
theorem RepK.any (r : RepK K F vs ds) : (vs.any fun kv => decide (kv.1 = k)) = ds.any fun kv => decide (kv.1 = k) := by
  induction vs generalizing ds with
  | nil => cases r; rfl
  | cons p vs ih =>
    cases r with
    | cons a r => rw [List.any_cons, List.any_cons, ih r]
theorem RepK.len (r : RepK K F vs ds) : vs.length = ds.length := by
  induction vs generalizing ds with
  | nil => cases r; rfl
  | cons p vs ih =>
    cases r with
    | cons a r => rw [List.length_cons, List.length_cons, ih r]
theorem RepK.snoc (r : RepK K F vs ds) {v : V} {d : D} (a : Rep K F v d) : RepK K F (vs ++ [(k, v)]) (ds ++ [(k, d)]) := by
  induction vs generalizing ds with
  | nil => cases r; exact .cons a .nil
  | cons p vs ih =>
    cases r with
    | cons b r => exact .cons b (ih r)
theorem RepK.map (r : RepK K F vs ds) {v : V} {d : D} (a : Rep K F v d) : RepK K F (vs.map fun kv => if kv.1 = k then (kv.1, v) else kv) (ds.map fun kv => if kv.1 = k then (kv.1, d) else kv) := by
  induction vs generalizing ds with
  | nil => cases r; exact .nil
  | cons p vs ih =>
    cases r with
    | @cons k' v' _ d' ds' b r =>
      rw [List.map_cons, List.map_cons]
      by_cases e : k' = k
      · rw [if_pos e, if_pos e]; exact .cons a (ih r)
      · rw [if_neg e, if_neg e]; exact .cons b (ih r)
theorem RepK.put (r : RepK K F vs ds) {v : V} {d : D} (a : Rep K F v d) : RepK K F (putK vs k v) (putG ds k d) := by
  unfold putK putG
  rw [r.any]
  split
  · exact r.map a
  · exact r.snoc a
end
/-- a key as data -/
def keyV : Key → D
  | .inl i => .int i
  | .inr x => .str x.cps.toList
theorem rep_key {K : PySem.W.Frag} {F : Hp} {v : V} {k : Key} (r : Rep K F v (keyV k)) : v = kV k := by
  cases k with
  | inl i => cases r; rfl
  | inr x =>
    obtain ⟨⟨l⟩⟩ := x
    cases r
    rfl
theorem key_rep {K : PySem.W.Frag} {F : Hp} (k : Key) : Rep K F (kV k) (keyV k) := by
  cases k with
  | inl i => exact .int i
  | inr x =>
    obtain ⟨⟨l⟩⟩ := x
    exact .str l
theorem keyV_str (x : List Nat) : keyV (.inr ⟨x.toArray⟩) = .str x := rfl
section
variable {X : Cx} {pins : Pins} {σ : SS} {H F : Hp} {M : Mp} {ρ : En} {s : Shared} {Q : DQ} {kvs : List (Key × D)} {k : Key} {d : D} {e o i value : Expr} {pos pos' : Pos}
/-- d[y] -/
theorem VI.get (hu : X.A.units + 1 < cLine) {y : D} (hy : y = keyV k) (hd : lookK kvs k = some d) (h : Q d M) : VI X (.dic kvs) y M Q := by
  intro va sl pins s σ H F v1 v2 u1 u2 I R r1 r2 p1 p2 hs
  subst hy
  cases p1 with
  | dic hF rK =>
    obtain rfl := rep_key p2
    obtain ⟨v, hv, rv⟩ := rK.look hd
    cases r1
    have g : DGet H _ (kV k) (some v) := .inl ⟨_, k, .inl (R.sub _ _ hF), rfl, hv.symm⟩
    exact tail_any (ops := [_, u2]) (dict_typeIs I g) PySem.F.slot_dict_getitem.lookup (d_getItem hu I g r2 fun w' s' I' rw' => ⟨v, H, F, M, d, I', rw', Stp.refl R, rv, h⟩) hs
theorem VI.getM (hu : X.A.units + 1 < cLine) {a : Addr} {y : D} (hm : M a = some (.dic kvs)) (hy : y = keyV k) (hd : lookK kvs k = some d) (h : Q d M) : VI X (.ref a) y M Q := by
  intro va sl pins s σ H F v1 v2 u1 u2 I R r1 r2 p1 p2 hs
  subst hy
  cases p1
  obtain rfl := rep_key p2
  obtain ⟨vs, hv0, rK⟩ := R.dic hm
  obtain ⟨v, hv, rv⟩ := rK.look hd
  cases r1
  have g : DGet H a (kV k) (some v) := .inl ⟨_, k, .inl hv0, rfl, hv.symm⟩
  exact tail_any (ops := [_, u2]) (dict_typeIs I g) PySem.F.slot_dict_getitem.lookup (d_getItem hu I g r2 fun w' s' I' rw' => ⟨v, H, F, M, d, I', rw', Stp.refl R, rv, h⟩) hs
/-- y in d -/
theorem VO.inK (hu : X.A.units + 1 < cLine) {y : D} (hy : y = keyV k) (h : Q (.bl (lookK kvs k).isSome) M) : VO X (compareOp .In) y (.dic kvs) M Q := by
  intro pins s σ H F v1 v2 u1 u2 I R r1 r2 p1 p2
  subst hy
  cases p2 with
  | dic hF rK =>
    obtain rfl := rep_key p1
    cases r2
    refine d_in hu I (.inl ⟨_, k, .inl (R.sub _ _ hF), rfl, rfl⟩) r1 fun s' I' => ?_
    rw [rK.isSome]
    exact ⟨.bl _, H, F, M, _, I', rfl, Stp.refl R, .bl _, h⟩
/-- {} -/
theorem WE.dicM (h : ∀ p, M p = none → Q (.ref p) (mset M p (.dic []))) : WE X (.Dict [] [] pos) ρ M Q := .pe pe_dnewK fun σ H F S p hp =>
  ⟨F, _, _, Stp.newM S.good hp (.dic .nil), .ref p, h p (S.good.free hp)⟩
theorem WE.dicN (h : Q (.dic []) M) : WE X (.Dict [] [] pos) ρ M Q := .pe pe_dnewK fun σ H F S p hp =>
  ⟨_, M, _, Stp.new S.good hp, .dic upd_same .nil, h⟩
/-- o[i] = v by values -/
def VT (X : Cx) (x y d : D) (M : Mp) (R : Mp → Prop) : Prop :=
  ∀ (pins : Pins) (s : Shared) (σ : SS) (H F : Hp) (v1 v2 v3 : V) (u1 u2 u3 : Value), Inv X pins σ H s → Good X.K H F M → RelV v1 u1 → RelV v2 u2 → RelV v3 u3 → Rep X.K F v1 x → Rep X.K F v2 y → Rep X.K F v3 d →
    wpAny (model X.prog X.w) X.A (setItem u1 u2 u3) (fun _ s' => ∃ H' F' M', Inv X pins σ H' s' ∧ Stp X.K H F M H' F' M' ∧ R M') X.xe s
theorem WG.sub {R : En → Mp → Prop} (h : WE X o ρ M fun z M1 => WE X i ρ M1 fun y M2 => VT X z y d M2 fun M3 => R ρ M3)
    (ha : ∀ v, assign (.Subscript o i pos) X.env v = (do
      let ov ← holding [v] (eval o X.env)
      let iv ← holding [v, ov] (eval i X.env)
      standAt pos
      holding [v, ov, iv] (setItem ov iv v)
      release [v, ov, iv] []) := by intro _; rfl) : WG X (.Subscript o i pos) d ρ M R := by
  refine ⟨fun pins s σ H F v u I S r rp => ?_⟩
  rw [ha]
  refine wpAny_bind (wpAny_holding (thn (h.run pins s σ H F I S) fun ov s1 ⟨x, H1, F1, M1, z, I1, r1, t1, p1, q1⟩ => ?_))
  refine wpAny_bind (wpAny_holding (thn (q1.run pins s1 σ H1 F1 I1 (S.step t1)) fun iv s2 ⟨y, H2, F2, M2, y', I2, r2, t2, p2, q2⟩ => ?_))
  have t := t1.trans t2
  refine wpAny_bind (wpAny_standAt (wpAny_bind (wpAny_holding (thn (q2 pins s2 σ H2 F2 x y v ov iv u I2 t2.good r1 r2 r (t2.rep p1) p2 (t.rep rp)) fun _ s3 ⟨H3, F3, M3, I3, t3, q3⟩ => ?_))))
  exact wpAny_release ⟨σ, H3, I3, F3, M3, ρ, t.trans t3, (S.step t).step t3, q3⟩
theorem VT.dic (hu : X.A.units + 1 < cLine) {a : Addr} {y : D} {R : Mp → Prop} (hm : M a = some (.dic kvs)) (hy : y = keyV k) (hl : kvs.length < sizeLine) (h : R (mset M a (.dic (putG kvs k d)))) : VT X (.ref a) y d M R := by
  intro pins s σ H F v1 v2 v3 u1 u2 u3 I G r1 r2 r3 p1 p2 p3
  subst hy
  cases p1
  obtain rfl := rep_key p2
  cases r1
  obtain ⟨vs, hv, rK⟩ := G.dic hm
  exact d_setItem hu I (.inl ⟨vs, k, hv, rfl, by rw [rK.len]; exact hl, rfl⟩) r2 r3 fun s4 I4 => ⟨_, F, _, I4, Stp.write G hm (.dic (rK.put (k := k) p3)), h⟩
theorem VT.lst {a : Addr} {xs : List D} {j : Int} {n : Nat} {R : Mp → Prop} (hm : M a = some (.lst xs)) (hj : ixN xs.length j = some n) (h : R (mset M a (.lst (xs.set n d)))) : VT X (.ref a) (.int j) d M R := by
  intro pins s σ H F v1 v2 v3 u1 u2 u3 I G r1 r2 r3 p1 p2 p3
  cases p1
  cases p2
  obtain ⟨vs, hv, r⟩ := G.lst hm
  exact thn (set_list pins s σ H _ _ _ u1 u2 u3 (fun H' => H' = upd H a (.lst (vs.set n v3))) I r1 r2 r3 ⟨a, vs, j, n, rfl, rfl, hv, by rw [r.length]; exact hj, rfl⟩) fun _ s' ⟨H', I', e⟩ => by
    subst e
    exact ⟨_, F, _, I', Stp.write G hm (.lst (r.set n p3)), h⟩
/-- d.setdefault(k, x) -/
theorem VM.setdef {a : Addr} {y : D} (hm : M a = some (.dic kvs)) (hy : y = keyV k) (hl : kvs.length < sizeLine) (h1 : ∀ d', lookK kvs k = some d' → Q d' M) (h2 : lookK kvs k = none → Q d (mset M a (.dic (putG kvs k d)))) : VM X "dict.setdefault" (.ref a) [y, d] M Q := by
  intro pins s σ H F v u vs us I R r1 p1 r2 p2
  subst hy
  cases p1
  cases p2 with
  | cons q1 p2 =>
    cases p2 with
    | cons q2 p2 =>
      cases p2
      obtain rfl := rep_key q1
      cases r2 with
      | cons a1 r2 =>
        cases r2 with
        | cons a2 r2 =>
          cases r2
          cases r1
          obtain ⟨ws, hw, rK⟩ := R.dic hm
          refine d_setd I hw a1 a2 (by rw [rK.len]; exact hl) (fun v hv w' s' I' rw' => ?_) fun hn w' s' I' rw' => ?_
          · cases hk : lookK kvs k with
            | none => rw [rK.lookN hk] at hv; cases hv
            | some d' =>
              obtain ⟨v', hv', rv⟩ := rK.look hk
              rw [hv] at hv'
              cases hv'
              exact ⟨v, H, F, M, d', I', rw', Stp.refl R, rv, h1 d' hk⟩
          · cases hk : lookK kvs k with
            | some d' =>
              obtain ⟨v', hv', rv⟩ := rK.look hk
              rw [hn] at hv'
              cases hv'
            | none => exact ⟨_, _, F, _, d, I', rw', Stp.write R hm (.dic (rK.put q2)), q2, h2 hk⟩
theorem VC.lenD {a : Addr} (hm : M a = some (.dic kvs)) (h : Q (.int kvs.length) M) : VC X (.builtin "len") [.ref a] M Q :=
  .call call_lenD fun H F vs R p => by
    cases p with
    | cons q p =>
      cases p
      cases q
      obtain ⟨ws, hw, rK⟩ := R.dic hm
      exact ⟨a, ws, rfl, hw, F, M, _, Stp.refl R, .int _, by rw [rK.len]; exact h⟩
end
end TL
end
section
set_option maxRecDepth 100000
/-! TN: dicts whose keys are tuples, over tree values. -/
namespace TL
open PySem PySem.Spec PyProof.Rows L2

theorem kdo_at {P : Program} {w w' : World} {H : Hp} {h : Heap} {a : Addr} {xs : KX} (ok : HOk P w H h) (e : H a = some (KDO w' a xs)) :
    ∃ o es ep, h.get? a = some o ∧ o.ExactDict ∧ o.data = .dict es ep ∧ es.toList = xs.map (entK w') ∧ (xs.map (·.1)).Nodup ∧ xs.length ≤ sizeLine ∧ (a == sysModules) = false := by
  have x : ObjOk P w H h a (.ext fun h => ∃ o es ep, h.get? a = some o ∧ o.ExactDict ∧ o.data = .dict es ep ∧ es.toList = xs.map (entK w') ∧ (xs.map (·.1)).Nodup ∧ xs.length ≤ sizeLine ∧ (a == sysModules) = false) := ok a _ e
  exact x.1
theorem kdo_ok {P : Program} {w w' : World} {H : Hp} {h : Heap} {a : Addr} {xs : KX} {o : Obj} {es : Array DictEntry} {ep : Nat} (h1 : h.get? a = some o) (h2 : o.ExactDict) (h3 : o.data = .dict es ep) (h4 : es.toList = xs.map (entK w'))
    (h5 : (xs.map (·.1)).Nodup) (h6 : xs.length ≤ sizeLine) (h7 : (a == sysModules) = false) : ObjOk P w H h a (KDO w' a xs) :=
  ⟨⟨o, es, ep, h1, h2, h3, h4, h5, h6, h7⟩, ⟨o, h1⟩, fun g g' z k => let ⟨o, es, ep, a1, r⟩ := z; ⟨o, es, ep, k _ a1, r⟩⟩

section
variable {X : Cx} {pins : Pins} {σ : SS} {H F : Hp} {M : Mp} {ρ : En} {s : Shared} {Q : DQ}
mutual
/-- a value that stands for data is the key of that data -/
theorem nested_of (I : Inv X pins σ H s) (g : Sub F H) : ∀ {v : V} {d : D} {u : Value} {k : NestedKey}, Rep X.K F v d → RelV v u → nkey d = some k → NestedIs s.heap k u
  | _, _, _, _, .non, r, e => by cases r; cases e; exact .none
  | _, _, _, _, .bl b, r, e => by cases r; cases e; exact .bool rfl
  | _, _, _, _, .int i, r, e => by obtain ⟨t, rfl⟩ := r; cases e; exact .int _ _
  | _, _, _, _, .str x, r, e => by obtain ⟨t, rfl⟩ := r; cases e; exact .text _ _
  | _, _, _, _, .ty n, r, e => by cases e
  | _, _, _, _, .ref n, r, e => by cases e
  | _, _, _, _, .lst _ _, r, e => by cases e
  | _, _, _, _, .ins _ _, r, e => by cases e
  | _, _, _, _, .dic _ _, r, e => by cases e
  | _, _, _, _, .xn _ _, r, e => by cases e
  | _, _, _, _, .tun _ _ _ _, r, e => by cases e
  | _, _, _, k, .tup (ds := ds) q p, r, e => by
    cases r
    have e' : (nkeys ds).map NestedKey.tup = some k := e
    cases hk : nkeys ds with
    | none => rw [hk] at e'; cases e'
    | some ks =>
      rw [hk] at e'
      cases e'
      obtain ⟨its, rv, ⟨o, ho, hc, n, hd⟩, _⟩ := I.tuple (g.sqT q)
      exact .tup ho hc hd (by simpa using nested_all I g p rv hk)
theorem nested_all (I : Inv X pins σ H s) (g : Sub F H) : ∀ {vs : List V} {ds : List D} {us : List Value} {ks : List NestedKey}, Reps X.K F vs ds → Vals vs us → nkeys ds = some ks → NestedAll s.heap ks us
  | _, _, _, _, .nil, r, e => by cases r; cases e; exact .nil
  | _, _, _, ks, .cons (d := d) (ds := ds) a p, r, e => by
    cases r with
    | cons r1 r2 =>
      have e' : (match nkey d, nkeys ds with | some k, some ks => some (k :: ks) | _, _ => none) = some ks := e
      cases h1 : nkey d with
      | none => rw [h1] at e'; cases e'
      | some k =>
        cases h2 : nkeys ds with
        | none => rw [h1, h2] at e'; cases e'
        | some ks' =>
          rw [h1, h2] at e'
          cases e'
          exact .cons (nested_of I g a r1 h1) (nested_all I g p r2 h2)
end
theorem repX_is (I : Inv X pins σ H s) (g : Sub F H) : ∀ {xs : KX} {ds : List (D × D)}, RepX X.K F xs ds → ∀ x ∈ xs, (nestedKind X.prog X.w).is s.heap x.1 x.2.1
  | _, _, .nil, x, h => nomatch h
  | _, _, .cons e1 e2 r1 _ _ r, x, h => by
    rcases List.mem_cons.mp h with rfl | h
    · exact ⟨nested_of I g r1 rfl e1, e2⟩
    · exact repX_is I g r x h
/-- the dict at a, as the library's rules want it -/
theorem kd_dict (I : Inv X pins σ H s) (G : Good X.K H F M) {a : Addr} {ds : List (D × D)} (hm : M a = some (.kd X.w ds)) :
    ∃ xs, H a = some (KDO X.w a xs) ∧ RepX X.K F xs ds ∧ s.heap.DictOfH (nestedKind X.prog X.w) a xs ∧ xs.length ≤ sizeLine ∧ (a == sysModules) = false := by
  obtain ⟨o, ho, ro⟩ := G.real a _ hm
  generalize em : MO.kd X.w ds = m at ro
  cases ro with
  | @kd w' a' xs ds' r =>
    cases em
    have ho' : H a = some (KDO X.w a' xs) := ho
    have x : ObjOk X.prog X.w H s.heap a (.ext fun h => ∃ o es ep, h.get? a' = some o ∧ o.ExactDict ∧ o.data = .dict es ep ∧ es.toList = xs.map (entK X.w) ∧ (xs.map (·.1)).Nodup ∧ xs.length ≤ sizeLine ∧ (a' == sysModules) = false) := I.hok a _ ho'
    have ea : a' = a := Classical.byContradiction fun ne => by
      have q := x.2.2 s.heap (PySem.W.hideAll s.heap [a']) x.1 fun o e => PySem.W.hideAll_get [a'] e (by simpa using fun z => ne z.symm)
      obtain ⟨o, _, _, q, _⟩ := q
      rw [PySem.W.hideAll_none [a'] (List.mem_singleton.mpr rfl)] at q
      cases q
    subst ea
    obtain ⟨⟨o, es, ep, h1, h2, h3, h4, h5, h6, h7⟩, _⟩ := x
    exact ⟨xs, ho', r, ⟨o, es, ep, h1, h2, h3, h4, repX_is I G.sub r, h5⟩, h6, h7⟩
  | _ => cases em
end
def lookX (ds : List (D × D)) (k : NestedKey) : Option D := (ds.find? fun p => decide (nkey p.1 = some k)).map (·.2)
section
variable {K : PySem.W.Frag} {F : Hp} {xs : KX} {ds : List (D × D)} {k : NestedKey}
theorem RepX.look (r : RepX K F xs ds) {d : D} (h : lookX ds k = some d) : ∃ b u v, atKey xs k = some (b, u) ∧ RelV v u ∧ Rep K F v d := by
  induction xs generalizing ds with
  | nil => cases r; cases h
  | cons p xs ih =>
    cases r with
    | @cons k' a u v kd d' _ ds' e1 e2 r1 r2 r3 r =>
      by_cases e : k' = k
      · subst e
        simp [lookX, e1] at h
        subst h
        exact ⟨a, u, v, by simp [atKey], r2, r3⟩
      · simp [lookX, e1, e] at h
        obtain ⟨b, u', v', h1, h2, h3⟩ := ih r (by simpa [lookX] using h)
        exact ⟨b, u', v', by simpa [atKey, e] using h1, h2, h3⟩
theorem RepX.lookN (r : RepX K F xs ds) (h : lookX ds k = none) : atKey xs k = none := by
  induction xs generalizing ds with
  | nil => rfl
  | cons p xs ih =>
    cases r with
    | @cons k' a u v kd d' _ ds' e1 e2 r1 r2 r3 r =>
      by_cases e : k' = k
      · subst e
        simp [lookX, e1] at h
      · simp [lookX, e1, e] at h
        have := ih r (by simpa [lookX] using h)
        simpa [atKey, e] using this
theorem RepX.len (r : RepX K F xs ds) : xs.length = ds.length := by
  induction xs generalizing ds with
  | nil => cases r; rfl
  | cons p xs ih =>
    cases r with
    | cons _ _ _ _ _ r => rw [List.length_cons, List.length_cons, ih r]
theorem RepX.snoc (r : RepX K F xs ds) {a : Addr} {u : Value} {v : V} {kd d : D} (e1 : nkey kd = some k) (e2 : k.depth ≤ 8) (r1 : Rep K F (.ref a) kd) (r2 : RelV v u) (r3 : Rep K F v d) : RepX K F (xs ++ [(k, a, u)]) (ds ++ [(kd, d)]) := by
  induction xs generalizing ds with
  | nil => cases r; exact .cons e1 e2 r1 r2 r3 .nil
  | cons p xs ih =>
    cases r with
    | cons a1 a2 a3 a4 a5 r => exact .cons a1 a2 a3 a4 a5 (ih r)
end
section
variable {X : Cx} {pins : Pins} {σ : SS} {H F : Hp} {M : Mp} {ρ : En} {s : Shared} {Q : DQ} {ds : List (D × D)} {k : NestedKey} {d : D} {ks : List D} {a : Addr} {pos : Pos}
/-- {}, to be one with tuple keys -/
theorem WE.kdM (h : ∀ p, M p = none → Q (.ref p) (mset M p (.kd X.w []))) : WE X (.Dict [] [] pos) ρ M Q := by
  refine ⟨fun pins s σ H F I S => ?_⟩
  have hf := I.fresh
  have hb : (s.heap.objs.size == sysModules) = false := beq_eq_false_iff_ne.mpr (Nat.ne_of_gt I.big)
  refine wpAny_Dict_empty ⟨.ref s.heap.objs.size, _, F, _, _, I.laid (a := s.heap.objs.size) (o := KDO X.w s.heap.objs.size []) (t' := s.toks) (fun _ _ q => Heap.get?_push_of_some _ q) (Nat.le_refl _) ?_, rfl, Stp.newM S.good hf (.kd .nil), .ref _, h _ (S.good.free hf)⟩
  exact kdo_ok (Heap.get?_push_size _ rfl) ⟨rfl, rfl, rfl⟩ rfl rfl List.nodup_nil (Nat.zero_le _) hb
/-- the room that a tuple key asks -/
theorem room8 {A : Around} {j : Nat} (hr : GRoom j A) : (nestedKind X.prog X.w).room A.in1 := by
  have := hr.room.un
  show A.units + 1 + 8 < cLine
  omega
theorem VI.getX {j : Nat} (hr : GRoom j X.A) {y : D} (hm : M a = some (.kd X.w ds)) (hy : nkey y = some k) (hyt : ∃ ys, y = .tup ys) (h8 : k.depth ≤ 8) (hd : lookX ds k = some d) (h : Q d M) : VI X (.ref a) y M Q := by
  intro va sl pins s σ H F v1 v2 u1 u2 I R r1 r2 p1 p2 hs
  obtain ⟨ys, rfl⟩ := hyt
  obtain ⟨xs, hx, rX, dd, hl, hsm⟩ := kd_dict I R hm
  cases p1
  cases r1
  have hk := nested_of I R.sub p2 r2 hy
  cases p2 with
  | tup q p =>
    cases r2
    obtain ⟨b, u, v, e1, e2, e3⟩ := rX.look hd
    exact tail_any (ops := [_, _]) dd.typeIs PySem.F.slot_dict_getitem.lookup (wpAny_getItem_heap (room8 hr) ⟨hk, h8⟩ dd e1 ⟨v, H, F, M, d, I.tok _, e2, Stp.refl R, e3, h⟩) hs
theorem VO.inX {j : Nat} (hr : GRoom j X.A) {y : D} (hm : M a = some (.kd X.w ds)) (hy : nkey y = some k) (hyt : ∃ ys, y = .tup ys) (h8 : k.depth ≤ 8) (h : Q (.bl (lookX ds k).isSome) M) : VO X (compareOp .In) y (.ref a) M Q := by
  intro pins s σ H F v1 v2 u1 u2 I R r1 r2 p1 p2
  obtain ⟨ys, rfl⟩ := hyt
  obtain ⟨xs, hx, rX, dd, hl, hsm⟩ := kd_dict I R hm
  cases p2
  cases r2
  have hk := nested_of I R.sub p1 r1 hy
  cases p1 with
  | tup q p =>
    cases r1
    refine wpAny_in_heap (room8 hr) ⟨hk, h8⟩ hsm dd ?_
    have e : (atKey xs k).isSome = (lookX ds k).isSome := by
      cases hd : lookX ds k with
      | none => rw [rX.lookN hd]; rfl
      | some d => obtain ⟨b, u, v, e1, _⟩ := rX.look hd; rw [e1]; rfl
    rw [e]
    exact ⟨.bl _, H, F, M, _, I.tok _, rfl, Stp.refl R, .bl _, h⟩
theorem TyIs.kd (hm : M a = some (.kd X.w ds)) : TyIs X M (.ref a) "dict" := by
  intro pins s σ H F v u I R r1 p1
  obtain ⟨xs, hx, rX, dd, hl, hsm⟩ := kd_dict I R hm
  cases p1
  cases r1
  refine ⟨dd.typeIs, fun b e => ?_⟩
  cases e
  obtain ⟨o, es, ep, h1, h2, _⟩ := dd
  exact ⟨o, h1, h2.2.1⟩
/-- the dict is written -/
theorem kd_write (I : Inv X pins σ H s) (G : Good X.K H F M) (hm : M a = some (.kd X.w ds)) {h' : Heap} {t' : Nat} {xs' : KX} {ds' : List (D × D)} (hs : Heap.SameBut a s.heap h') (dd : h'.DictOfH (nestedKind X.prog X.w) a xs') (hl : xs'.length ≤ sizeLine) (rX : RepX X.K F xs' ds') :
    Inv X pins σ (upd H a (KDO X.w a xs')) { s with heap := h', toks := t' } ∧ Stp X.K H F M (upd H a (KDO X.w a xs')) F (mset M a (.kd X.w ds')) := by
  obtain ⟨xs, hx, _, _, _, hsm⟩ := kd_dict I G hm
  obtain ⟨o, es, ep, h1, h2, h3, h4, _, h5⟩ := dd
  exact ⟨I.write (x := a) (e := a) (by rw [hx]; exact True.intro) (.inl rfl) (fun b q hb z => (hs.2 b hb).trans z) ⟨o, h1⟩ (kdo_ok h1 h2 h3 h4 h5 hl hsm), Stp.write G hm (.kd rX)⟩
theorem VM.setdefX {j : Nat} (hr : GRoom j X.A) {y : D} (hm : M a = some (.kd X.w ds)) (hy : nkey y = some k) (hyt : ∃ ys, y = .tup ys) (h8 : k.depth ≤ 8) (hl : ds.length < sizeLine)
    (h1 : ∀ d', lookX ds k = some d' → Q d' M) (h2 : lookX ds k = none → Q d (mset M a (.kd X.w (ds ++ [(y, d)])))) : VM X "dict.setdefault" (.ref a) [y, d] M Q := by
  intro pins s σ H F v u vs us I R r1 p1 r2 p2
  obtain ⟨ys, rfl⟩ := hyt
  obtain ⟨xs, hx, rX, dd, hl', hsm⟩ := kd_dict I R hm
  cases p1
  cases r1
  cases p2 with
  | cons q1 p2 =>
    cases p2 with
    | cons q2 p2 =>
      cases p2
      cases r2 with
      | cons a1 r2 =>
        cases r2 with
        | cons a2 r2 =>
          cases r2
          have hk := nested_of I R.sub q1 a1 hy
          have q1' := q1
          cases q1 with
          | tup q p =>
            cases a1
            refine call_setdefault_heap (hsz := hl') (room8 hr) ⟨hk, h8⟩ hsm dd (fun p hp => ?_) fun hn h' dd' hs => ?_
            · cases hd : lookX ds k with
              | none => rw [rX.lookN hd] at hp; cases hp
              | some d' =>
                obtain ⟨b, u, v, e1, e2, e3⟩ := rX.look hd
                rw [hp] at e1
                cases e1
                exact ⟨v, H, F, M, d', I.tok _, e2, Stp.refl R, e3, h1 d' hd⟩
            · cases hd : lookX ds k with
              | some d' =>
                obtain ⟨b, u, v, e1, e2, e3⟩ := rX.look hd
                rw [hn] at e1
                cases e1
              | none =>
                rw [storedH_new hn] at dd'
                obtain ⟨J, t⟩ := kd_write (t' := s.toks + (nestedKind X.prog X.w).draws k) I R hm hs dd' (by rw [List.length_append, rX.len]; exact hl) (rX.snoc hy h8 q1' a2 q2)
                exact ⟨_, _, F, _, d, J, a2, t, q2, h2 hd⟩
theorem VC.lenX (hm : M a = some (.kd X.w ds)) (h : Q (.int ds.length) M) : VC X (.builtin "len") [.ref a] M Q := by
  intro pins s σ H F vs us I R r1 p1
  cases p1 with
  | cons q p =>
    cases p
    cases r1 with
    | cons r1 r2 =>
      cases r2
      obtain ⟨xs, hx, rX, dd, hl, hsm⟩ := kd_dict I R hm
      cases q
      cases r1
      have hz := sizeLine_eq
      refine PySem.call_len_dictH hsm dd (by rw [hz] at hl; omega) ?_
      rw [rX.len]
      exact ⟨.int ds.length, H, F, M, _, I.tok _, ⟨_, rfl⟩, Stp.refl R, .int _, h⟩
end
end TL
end
section
set_option maxRecDepth 100000
/-! TS: set(x) of ints and texts; sorted(set(x)), len(set(x)), over tree values. -/
namespace TL
open PySem PySem.Spec PyProof.Rows L2

instance memK (k : Key) (l : List Key) : Decidable (k ∈ l) := decidable_of_iff ((l.any fun x => decide (x = k)) = true) (by simp)
/-- the key that an element is -/
def elK (e : Int × Value) : Key := match e.2 with
  | .int k _ => .inl k
  | .str x _ => .inr x
  | _ => .inl 0
def GoodK (w : World) (e : Int × Value) : Prop := ∃ k, RelV (kV k) e.2 ∧ e.1 = keyH w k
theorem elK_of {k : Key} {e : Int × Value} (r : RelV (kV k) e.2) : elK e = k := by
  obtain ⟨h, v⟩ := e
  cases k with
  | inl i => obtain ⟨t, q⟩ := r; simp only at q; subst q; rfl
  | inr x => obtain ⟨t, q⟩ := r; simp only at q; subst q; rfl
theorem scan_of {k : Key} {v : Value} (r : RelV (kV k) v) : v.scannable = true := by
  cases k with
  | inl i => obtain ⟨t, rfl⟩ := r; rfl
  | inr x => obtain ⟨t, rfl⟩ := r; rfl
/-- the set of keys at a: its table rises and can be walked -/
def SetG (w : World) (h : Heap) (a : Addr) (ks : List Key) : Prop :=
  ∃ o es ep t, h.get? a = some o ∧ o.ExactSet ∧ o.data = .set es ep t ∧ (∀ e ∈ es.toList, GoodK w e) ∧ (es.toList.map elK).Perm ks ∧ ks.Nodup ∧ ks.length < scanBound ∧ t.fits es.size = true ∧ Ris t.place.toList ∧ (w.params.followText "set-order" = true ∨ t.led = true)
section
variable {P : Program} {w : World} {h h' : Heap} {a : Addr} {ks : List Key}
theorem SetG.at (R : SetG w h a ks) (k : ∀ o, h.get? a = some o → h'.get? a = some o) : SetG w h' a ks := let ⟨o, es, ep, t, e, r⟩ := R; ⟨o, es, ep, t, k o e, r⟩
theorem goodK_elems {l : List (Int × Value)} (g : ∀ e ∈ l, GoodK w e) : ElemsOf (mixKind P w) l := fun e he => by
  obtain ⟨k, r, hh⟩ := g e he
  exact ⟨⟨k, kV_is r, hh⟩, scan_of r⟩
theorem goodK_is {e : Int × Value} (g : GoodK w e) (k : Key) : (mixKind P w).is k e.2 = true ↔ elK e = k := by
  obtain ⟨k0, r, hh⟩ := g
  rw [elK_of r]
  exact ⟨fun q => (mixKind P w).inj e.2 k0 k (kV_is r) q, fun q => by subst q; exact kV_is r⟩
theorem goodK_mem {l : List (Int × Value)} (g : ∀ e ∈ l, GoodK w e) (k : Key) : k ∈ l.map elK ↔ ∃ e ∈ l, (mixKind P w).is k e.2 = true := by
  rw [List.mem_map]
  exact ⟨fun ⟨e, he, q⟩ => ⟨e, he, (goodK_is (g e he) k).2 q⟩, fun ⟨e, he, q⟩ => ⟨e, he, (goodK_is (g e he) k).1 q⟩⟩
theorem SetG.size (R : SetG w h a ks) : ∃ o es ep t, h.get? a = some o ∧ o.ExactSet ∧ o.data = .set es ep t ∧ t.fits es.size = true ∧ es.size = ks.length := by
  obtain ⟨o, es, ep, t, e, x, d, _, p, _, _, f, _⟩ := R
  exact ⟨o, es, ep, t, e, x, d, f, by rw [← p.length_eq, List.length_map, Array.length_toList]⟩
end
section
variable {P : Program} {w : World} {A : Around} {E : Value → Shared → Prop} {s : Shared} {a : Addr} {ks : List Key}
/-- the table is laid anew, where it is too full -/
theorem setG_tail {o : Obj} {es : Array (Int × Value)} {ep : Nat} {t : SetTable} (eo : s.heap.get? a = some o) (ex : o.ExactSet) (ed : o.data = .set es ep t) {es1 : Array (Int × Value)} {t2 : SetTable} {ks' : List Key}
    (g1 : ∀ e ∈ es1.toList, GoodK w e) (p1 : (es1.toList.map elK).Perm ks') (n1 : ks'.Nodup) (b1 : ks'.length < scanBound) (f2 : t2.fits es1.size = true) (r2 : Ris t2.place.toList) (l2 : w.params.followText "set-order" = true ∨ t2.led = true)
    {dum : Bool} {g : Bool → Sem Unit} (hg : ∀ (b : Bool) (s₁ : Shared) (Q' : Unit → Shared → Prop), Q' () s₁ → wpAny (model P w) A (g b) Q' E s₁) {R : Option Bool → Shared → Prop}
    (hR : ∀ h', Heap.SameBut a s.heap h' → SetG w h' a ks' → R (some true) { s with heap := h' }) :
    wpAny (model P w) A (do
        storeSet a es1 t2
        if (!dum && t2.tooFull) = true then do
            g (relayAll t2 es1 (SetTable.grown es1.size)).2.2
            storeSet a (relayAll t2 es1 (SetTable.grown es1.size)).1 (relayAll t2 es1 (SetTable.grown es1.size)).2.1
            pure (some true)
          else pure (some true)) R E s := by
  have z1 : es1.size = ks'.length := by rw [← p1.length_eq, List.length_map, Array.length_toList]
  have b2 : es1.size < scanBound := by rw [z1]; exact b1
  refine wpAny_bind (wpAny_storeSet_of eo ed ?_ (fits_of_scanBound b2))
  have o1 := store_at (es' := es1) (t' := t2) eo ed
  have u1 := Heap.SameBut.update s.heap a (Obj.putSet es1 t2)
  split
  · have pm := relayAll_perm t2 es1 (SetTable.grown es1.size)
    have q1 := relayAll_fits t2 es1 (SetTable.grown es1.size)
    have q2 := relayAll_ris t2 es1 (SetTable.grown es1.size)
    have q3 := relayAll_led t2 es1 (SetTable.grown es1.size)
    generalize relayAll t2 es1 (SetTable.grown es1.size) = Z at pm q1 q2 q3 ⊢
    obtain ⟨es2, t3, gave⟩ := Z
    dsimp only at pm q1 q2 q3 ⊢
    have z2 : es2.size = es1.size := by rw [← Array.length_toList, pm.length_eq, Array.length_toList]
    refine wpAny_bind (hg _ _ _ (wpAny_bind (wpAny_storeSet_of o1 rfl (wpAny_pure (hR _ (u1.trans (Heap.SameBut.update _ a _)) ?_)) (fits_of_scanBound (by rw [z2]; exact b2)))))
    exact ⟨_, es2, _, t3, store_at (es' := es2) (t' := t3) o1 rfl, ex, rfl, fun e he => g1 e (pm.mem_iff.mp he), (pm.map elK).trans p1, n1, b1, q1, q2, l2.imp id fun z => by rw [q3]; exact z⟩
  · exact wpAny_pure (hR _ u1 ⟨_, es1, _, t2, o1, ex, rfl, g1, p1, n1, b1, f2, r2, l2⟩)
/-- a key is added -/
theorem setG_add {k : Key} {v : Value} {Q : Bool → Shared → Prop} (R : SetG w s.heap a ks) (rv : RelV (kV k) v) (room : ks.length + 1 < scanBound)
    (hQ : ∀ h', Heap.SameBut a s.heap h' → SetG w h' a (if k ∈ ks then ks else ks ++ [k]) → ∀ b, Q b { s with heap := h' }) : wpAny (model P w) A (setAddHashed a v ((mixKind P w).hash k)) Q E s := by
  obtain ⟨o, es, ep, t, eo, ex, ed, g, pm0, nd, bd, ef, er, el⟩ := R
  have hkey : (mixKind P w).is k v = true := kV_is rv
  have hsc := scan_of rv
  have hel : ElemsOf (mixKind P w) es.toList := goodK_elems g
  have z0 : es.size = ks.length := by rw [← pm0.length_eq, List.length_map, Array.length_toList]
  have b0 : es.size < scanBound := by rw [z0]; exact bd
  unfold setAddHashed setAddHashedIn
  refine wpAny_holding (wpAny_bind (wpAny_setState_of eo ed ef ?_))
  dsimp only
  rw [byScan_of hsc b0 hel]
  simp only [↓reduceIte]
  unfold setAddByScan
  refine wpAny_bind (wpAny_bind (wpAny_rule (wpAny_bind (wpAny_setScan_of hkey eo ed ef hel ?_))))
  cases hfi : List.findIdx? (fun e => (mixKind P w).is k e.2) es.toList with
  | some j =>
    dsimp only
    obtain ⟨hj, pj, _⟩ := List.findIdx?_eq_some_iff_getElem.mp hfi
    have hm : k ∈ ks := pm0.mem_iff.mp ((goodK_mem (P := P) g k).2 ⟨es.toList[j], List.getElem_mem hj, pj⟩)
    have q := hQ s.heap (Heap.SameBut.refl a s.heap)
    rw [if_pos hm] at q
    exact wpAny_pure (wpAny_pure (q ⟨o, es, ep, t, eo, ex, ed, g, pm0, nd, bd, ef, er, el⟩ _))
  | none =>
    dsimp only
    have hm : k ∉ ks := fun z => by
      obtain ⟨e, he, q⟩ := (goodK_mem (P := P) g k).1 (pm0.mem_iff.mpr z)
      have c := List.findIdx?_eq_none_iff.mp hfi e he
      rw [q] at c
      cases c
    have hgw : ∀ (b : Bool) {s₁ : Shared} {Q' : Unit → Shared → Prop}, Q' () s₁ → wpAny (model P w) A (match b with | true => rule "set.scan.the-table-gave-way" | false => pure ()) Q' E s₁ :=
      fun b s₁ Q' q => by cases b <;> first | exact wpAny_pure q | exact wpAny_rule q
    have pm := layNew_perm t es ((mixKind P w).hash k) v
    have q1 := layNew_fits t es ((mixKind P w).hash k) v
    have q2 := layNew_ris t es ((mixKind P w).hash k) v er
    have q3 := layNew_led t es ((mixKind P w).hash k) v
    generalize layNew t es ((mixKind P w).hash k) v = Z at pm q1 q2 q3 ⊢
    obtain ⟨es1, t1, dum, gave⟩ := Z
    dsimp only at pm q1 q2 q3 ⊢
    rw [Array.toList_push] at pm
    have g1 : ∀ e ∈ es1.toList, GoodK w e := fun e he => by
      rcases List.mem_append.mp (pm.mem_iff.mp he) with z | z
      · exact g e z
      · rw [List.mem_singleton.mp z]; exact ⟨k, rv, rfl⟩
    have p1 : (es1.toList.map elK).Perm (ks ++ [k]) := by
      refine (pm.map elK).trans ?_
      rw [List.map_append]
      refine (pm0.append_right _).trans ?_
      rw [List.map_singleton, elK_of (e := ((mixKind P w).hash k, v)) rv]
    have n1 : (ks ++ [k]).Nodup := List.nodup_append.mpr ⟨nd, List.nodup_cons.mpr ⟨List.not_mem_nil, List.nodup_nil⟩, fun x hx y hy e => hm (by rw [← List.mem_singleton.mp hy, ← e]; exact hx)⟩
    have b1 : (ks ++ [k]).length < scanBound := by rw [List.length_append]; exact room
    have l1 : w.params.followText "set-order" = true ∨ t1.led = true := el.imp id fun z => by rw [q3]; exact z
    have fin : ∀ h', Heap.SameBut a s.heap h' → SetG w h' a (ks ++ [k]) → Q true { s with heap := h' } := fun h' sb r => by
      have q := hQ h' sb
      rw [if_neg hm] at q
      exact q r true
    refine wpAny_bind (hgw _ ?_)
    split
    · refine wpAny_bind ?_
      rw [hashByValue_scannable 8 hsc]
      refine wpAny_pure (setG_tail eo ex ed g1 p1 n1 b1 ?_ ?_ ?_ ?_ fun h' sb r => ?_)
      · first | (split <;> first | exact q1 | exact SetTable.fits_plain_off q1) | exact q1
      · first | (split <;> exact q2) | exact q2
      · first | (split <;> exact l1) | exact l1
      · intro b s₁ Q' q; cases b <;> first | exact wpAny_pure q | exact wpAny_rule q
      · dsimp only
        exact wpAny_pure (fin h' sb r)
    · refine wpAny_bind (wpAny_pure ?_)
      simp only [↓reduceIte]
      refine setG_tail eo ex ed g1 p1 n1 b1 q1 q2 l1 ?_ fun h' sb r => ?_
      · intro b s₁ Q' q; cases b <;> first | exact wpAny_pure q | exact wpAny_rule q
      · dsimp only
        exact wpAny_pure (fin h' sb r)
/-- the keys, each once, in the order of their coming -/
def onceK : List Key → List Key → List Key
  | acc, [] => acc
  | acc, k :: ks => onceK (if k ∈ acc then acc else acc ++ [k]) ks
theorem once_len : ∀ (l acc : List Key), (onceK acc l).length ≤ acc.length + l.length
  | [], acc => by simp [onceK]
  | k :: l, acc => by
    have h := once_len l (if k ∈ acc then acc else acc ++ [k])
    unfold onceK
    split at h <;> simp_all <;> omega
/-- the update's loop -/
theorem setG_loop {I : Addr} {fp wr : List Addr} {G : Array GenState → Array GenState → Prop} {n : Nat} {Pv : Nat → Value → Prop} {St : Nat → Shared → Prop} {R : Result → Shared → Prop} (W : WalksS P w A.in1 I fp wr G n Pv St) (S : Addr) (hSf : S ∉ fp) (l : List Key)
    (hn : n = l.length) (hval : ∀ i v, Pv i v → ∃ k, l[i]? = some k ∧ RelV (kV k) v) :
    ∀ (j i : Nat) (acc : List Key) (s : Shared), n - i = j → i ≤ n → St i s → SetG w s.heap S acc → acc.length + (n - i) + 1 < scanBound →
      (∀ s', Moved (S :: wr) G s s' → SetG w s'.heap S (onceK acc (l.drop i)) → R (.ok (.ret .none)) s') → codeAny (model P w) A (.builtin "set.update.loop" ⟨[.ref S, .ref I], []⟩) R s := by
  have hSw : S ∉ wr := fun h => hSf (W.sub _ h)
  have hsub : ∀ b ∈ wr, b ∈ S :: wr := fun b hb => List.mem_cons_of_mem _ hb
  intro j
  induction j with
  | zero =>
    intro i acc s hj hi hst hS hb hR
    obtain rfl : i = n := by omega
    refine codeAny_builtin F.entry_set_update_loop ?_
    rw [Around.under_plainId F.plain_set_update_loop _]
    show wpAny _ A.in1 (pyNext (.ref I) >>= _) _ _ s
    refine wpAny_bind (W.done s _ _ hst fun s' hm => ?_)
    show wpAny _ A.in1 (ret Value.none) _ _ s'
    rw [List.drop_of_length_le (by omega)] at hR
    exact wpAny_pure (hR s' (hm.mono hsub) (hS.at fun o e => hm.heap S o hSw e))
  | succ j ih =>
    intro i acc s hj hi hst hS hb hR
    have hlt : i < n := by omega
    refine codeAny_builtin F.entry_set_update_loop ?_
    rw [Around.under_plainId F.plain_set_update_loop _]
    show wpAny _ A.in1 (pyNext (.ref I) >>= _) _ _ s
    refine wpAny_bind (W.item i s _ _ hlt hst fun v s' hP hst' hm => ?_)
    obtain ⟨k, hk, rv⟩ := hval i v hP
    have hS' : SetG w s'.heap S acc := hS.at fun o e => hm.heap S o hSw e
    show wpAny _ A.in1 (holding [v] (setAdd S v) >>= _) _ _ s'
    refine wpAny_bind (wpAny_holding ?_)
    unfold setAdd
    refine wpAny_holding (wpAny_bind ((mixKind P w).pyHash (k := k) (kV_is rv) (setG_add (s := { s' with toks := s'.toks + 1 }) hS' rv (by omega) fun h' hsb hS2 _ => ?_)))
    have hd : l.drop i = k :: l.drop (i + 1) := by
      rw [List.drop_eq_getElem_cons (by omega)]
      have := List.getElem?_eq_getElem (l := l) (i := i) (by omega)
      rw [hk] at this
      rw [Option.some.inj this]
    rw [hd] at hR
    have hl : (if k ∈ acc then acc else acc ++ [k]).length ≤ acc.length + 1 := by split <;> simp
    refine wpAny_pure ⟨plainId_quiet F.plain_set_update_loop _, ih (i + 1) _ _ (by omega) hlt (W.frame _ s' _ _ hst' (Nat.le_succ _) fun b hb' o e => ?_) hS2 (by omega) fun s'' hm'' hS'' => ?_⟩
    · rw [hsb.2 b (fun h : b = S => hSf (by rw [← h]; exact hb'))]; exact e
    · refine hR s'' (Moved.trans W.gtrans ((hm.mono hsub).then_heap (Nat.le_succ _) fun b o hb' e => ?_) hm'') hS''
      rw [hsb.2 b (fun h : b = S => hb' (by rw [h]; exact List.mem_cons_self))]; exact e
end
end TL
end
section
set_option maxRecDepth 100000
/-! TS2: the call set(x). -/
namespace TL
open PySem PySem.Spec PyProof.Rows L2

theorem vals_at : ∀ {xs : List V} {us : List Value} {i : Nat} {u : Value}, Vals xs us → us[i]? = some u → ∃ x, xs[i]? = some x ∧ RelV x u
  | _, _, _, _, .nil, e => by simp at e
  | _, _, 0, _, .cons r _, e => by simp at e; subst e; exact ⟨_, rfl, r⟩
  | _, _, i + 1, u, .cons _ r, e => by
    obtain ⟨x, h1, h2⟩ := vals_at (i := i) (u := u) r (by simpa using e)
    exact ⟨x, by simpa using h1, h2⟩
/-- what iter(v) walks, from the state s on -/
def SrcIt (P : Program) (w : World) (s : Shared) (v : Value) (ks : List Key) : Prop :=
  ∀ (A' : Around) (E' : Value → Shared → Prop) (s1 : Shared) (Q' : Value → Shared → Prop), (∀ b o, s.heap.get? b = some o → s1.heap.get? b = some o) → s.heap.objs.size < s1.heap.objs.size →
    (∀ (ob : Obj) (fp : List Addr) (Pv : Nat → Value → Prop) (St : Nat → Heap → Prop), (∀ A'' : Around, A''.handled = none → PySem.Walks P w A'' s1.heap.objs.size fp [s1.heap.objs.size] ks.length Pv St) → (∀ b ∈ fp, b = s1.heap.objs.size ∨ b < s.heap.objs.size) →
      St 0 (s1.heap.push ob) → (∀ i u, Pv i u → ∃ k, ks[i]? = some k ∧ RelV (kV k) u) → Q' (.ref s1.heap.objs.size) { s1 with heap := s1.heap.push ob }) → wpAny (model P w) A' (pyIter v) Q' E' s1
theorem SrcIt.list {P : Program} {w : World} {s : Shared} {l : Addr} {its : List Value} {ks : List Key} (hl : s.heap.IsList l its.toArray) (hv : Vals (ks.map kV) its) : SrcIt P w s (.ref l) ks := by
  intro A' E' s1 Q' hk hz hQ
  obtain ⟨o, e, c, n, d⟩ := id hl
  have h1 : s1.heap.IsList l its.toArray := ⟨o, hk l o e, c, n, d⟩
  have hll : l < s.heap.objs.size := Heap.lt_size e
  have hlen : its.toArray.size = ks.length := by rw [List.size_toArray, ← hv.length, List.length_map]
  refine wpAny_pyIter_list h1 (hQ _ [s1.heap.objs.size, l] (fun i v => its.toArray[i]? = some v) (fun i h => h.IsListIter s1.heap.objs.size l i ∧ h.IsList l its.toArray) (fun A'' hA => by rw [← hlen]; exact PySem.Walks.list hA _ l (Nat.ne_of_lt (Nat.lt_trans hll hz)) its.toArray) (fun b hb => ?_) ⟨⟨_, Heap.get?_push_size _ rfl, rfl, rfl⟩, h1.push _⟩ fun i u hu => ?_)
  · rcases List.mem_cons.mp hb with z | z
    · exact .inl z
    · exact .inr (by rw [List.mem_singleton.mp z]; exact hll)
  · have hu' : its[i]? = some u := by simpa using hu
    obtain ⟨v, hv', rv⟩ := vals_at hv hu'
    rw [List.getElem?_map] at hv'
    cases hk : ks[i]? with
    | none => rw [hk] at hv'; cases hv'
    | some k => rw [hk] at hv'; cases hv'; exact ⟨k, rfl, rv⟩
theorem SrcIt.tuple {P : Program} {w : World} {s : Shared} {l : Addr} {its : List Value} {ks : List Key} (hl : s.heap.IsTuple l its.toArray) (hv : Vals (ks.map kV) its) : SrcIt P w s (.ref l) ks := by
  intro A' E' s1 Q' hk hz hQ
  obtain ⟨o, e, c, n, d⟩ := id hl
  have h1 : s1.heap.IsTuple l its.toArray := ⟨o, hk l o e, c, n, d⟩
  have hll : l < s.heap.objs.size := Heap.lt_size e
  have hlen : its.toArray.size = ks.length := by rw [List.size_toArray, ← hv.length, List.length_map]
  refine wpAny_pyIter_tuple h1 (hQ _ [s1.heap.objs.size, l] (fun i v => its.toArray[i]? = some v) (fun i h => h.IsTupleIter s1.heap.objs.size l i ∧ h.IsTuple l its.toArray) (fun A'' hA => by rw [← hlen]; exact PySem.Walks.tuple hA _ l (Nat.ne_of_lt (Nat.lt_trans hll hz)) its.toArray) (fun b hb => ?_) ⟨⟨_, Heap.get?_push_size _ rfl, rfl, rfl⟩, h1.push _⟩ fun i u hu => ?_)
  · rcases List.mem_cons.mp hb with z | z
    · exact .inl z
    · exact .inr (by rw [List.mem_singleton.mp z]; exact hll)
  · have hu' : its[i]? = some u := by simpa using hu
    obtain ⟨v, hv', rv⟩ := vals_at hv hu'
    rw [List.getElem?_map] at hv'
    cases hk : ks[i]? with
    | none => rw [hk] at hv'; cases hv'
    | some k => rw [hk] at hv'; cases hv'; exact ⟨k, rfl, rv⟩
theorem SrcIt.str {P : Program} {w : World} {s : Shared} {x : Str} {t : Tok} : SrcIt P w s (.str x t) (x.cps.toList.map fun c => .inr ⟨#[c]⟩) := by
  intro A' E' s1 Q' hk hz hQ
  refine wpAny_pyIter_str fun o St W st => hQ o _ _ St (fun A'' hA => by have := W A'' hA; rw [List.length_map, Array.length_toList]; exact this) (fun b hb => .inl (List.mem_singleton.mp hb)) st fun i u hu => ?_
  obtain ⟨c, tk, hc, rfl⟩ := hu
  exact ⟨.inr ⟨#[c]⟩, by rw [List.getElem?_map, Array.getElem?_toList, hc]; rfl, tk, rfl⟩
section
variable {P : Program} {w : World} {A : Around} {E : Value → Shared → Prop} {s : Shared}
set_option maxRecDepth 100000 in
set_option maxHeartbeats 3200000 in
/-- set(v) -/
theorem setG_call {v : Value} {T : String} {ks : List Key} {Q : Value → Shared → Prop} (hh : A.handled = none) (hT : ∀ s' : Shared, (∀ b o, s.heap.get? b = some o → s'.heap.get? b = some o) → s'.TypeIs v T) (h1 : isSubtype (.type T) (.type "set") = pure false) (h2 : isSubtype (.type T) (.type "frozenset") = pure false)
    (h3 : (Value.type T == Value.type "dict") = false) (src : SrcIt P w s v ks) (hb : ks.length + 1 < scanBound)
    (h : ∀ (h' : Heap) (tk : Nat), SetG w h' s.heap.objs.size (onceK [] ks) → (∀ b o, s.heap.get? b = some o → h'.get? b = some o) → Q (.ref s.heap.objs.size) { s with heap := h', toks := tk }) :
    wpAny (model P w) A (call (.type "set") [v]) Q E s := by
  obtain ⟨c, tl, hmro⟩ := F.called_set.mro
  have f1 := F.called_set.made
  have f2 := F.called_set.sub
  refine wpAny_call (codeAny_of_tree ?_)
  show wpAny _ _ (callAny (.type "set") _) _ _ _
  refine wpAny_pure ⟨Code.quiet_builtin _ (by decide +kernel), codeAny_builtin F.entry_type_call ?_⟩
  rw [Around.under_plain (weight_type_call_type "set" [v] []) rfl]
  have f3 := F.called_set.notType
  have f4 := F.called_set.canCreate
  have f5 := F.typeCall_set_1 v
  repeat (any_goals (first | assumption | wp_step))

  refine codeAny_mono (code_set_led1 v (E := E) (Q₁ := fun obj s₁ => obj = .ref s.heap.objs.size ∧ s₁ = { s with heap := s.heap.push { cls := .type "set", dict := none, data := .set #[] 0 (.fresh 0 0 (!w.params.followText "set-order")) } }) ⟨rfl, rfl⟩) fun r s₁ hr => ?_
  cases r with
  | error e => exact hr
  | ok fl =>
    cases fl with
    | ret obj =>
      obtain ⟨rfl, rfl⟩ := hr
      generalize hho : (s.heap.push { cls := .type "set", dict := none, data := .set #[] 0 (.fresh 0 0 (!w.params.followText "set-order")) }) = hp1
      have hS : hp1.get? s.heap.objs.size = some { cls := .type "set", dict := none, data := .set #[] 0 (.fresh 0 0 (!w.params.followText "set-order")) } := by rw [← hho]; exact Heap.get?_push_size _ rfl
      have hz1 : hp1.objs.size = s.heap.objs.size + 1 := by rw [← hho]; exact Heap.size_push ..
      have hk1 : ∀ b o, s.heap.get? b = some o → hp1.get? b = some o := fun b o e => by rw [← hho]; exact Heap.get?_push_of_some _ e
      have hT1 : Shared.TypeIs { s with heap := hp1 } (.ref s.heap.objs.size) "set" := ⟨_, hS, rfl⟩
      have f6 := F.called_set.init.lookup
      have f7 := F.called_set.init.bind (.ref s.heap.objs.size)
      repeat (any_goals (first | assumption | wp_step))

      refine codeAny_mono (codeAny_call_builtin (R := wants (fun r s₂ => r = .none ∧ ∃ h' tk, s₂ = { s with heap := h', toks := tk } ∧ SetG w h' s.heap.objs.size (onceK [] ks) ∧ (∀ b o, s.heap.get? b = some o → h'.get? b = some o)) E)
        F.called_set.init.plain F.entry_set_init (check_set_init_1 hT1 ?_)) fun r₂ s₂ hr₂ => ?_
      · have hv := hT { s with heap := hp1 } hk1
        unfold Builtin.«set.__init__» noKeywords Builtin.Frozenset.updateFrom
        generalize hPI : pyIter = PI
        wp_walk
        subst hPI

        refine src _ _ _ _ hk1 (by show _ < hp1.objs.size; omega) fun ob fp Pv St W hfp hst hval => ?_
        refine wpAny_bind (wpAny_runValue ?_)
        have hh3 : A.in1.in1.in1.handled = none := by simp [hh]
        have hSf : s.heap.objs.size ∉ fp := fun hm => by
          rcases hfp _ hm with z | z
          · have z' : s.heap.objs.size = hp1.objs.size := z
            rw [hz1] at z'
            exact Nat.succ_ne_self _ z'.symm
          · exact absurd z (Nat.lt_irrefl _)
        have hS2 : (hp1.push ob).get? s.heap.objs.size = some { cls := .type "set", dict := none, data := .set #[] 0 (.fresh 0 0 (!w.params.followText "set-order")) } := Heap.get?_push_of_some _ hS
        have hS0 : SetG w (hp1.push ob) s.heap.objs.size [] := ⟨_, #[], 0, _, hS2, ⟨rfl, rfl, rfl⟩, rfl, (fun e he => by simp at he), List.Perm.refl _, List.nodup_nil, (by decide), (by rfl), List.Pairwise.nil, by
          show _ ∨ (!w.params.followText "set-order") = true
          cases w.params.followText "set-order"
          · exact .inr rfl
          · exact .inl rfl⟩
        refine setG_loop (W _ hh3).toS s.heap.objs.size hSf ks rfl hval (ks.length - 0) 0 [] _ (by omega) (Nat.zero_le _) hst hS0 (by simpa using hb) fun s' hm hS' => ?_
        obtain ⟨h', g2, d', tk', os'⟩ := s'
        have eg : g2 = s.gens := hm.gens
        have ed : d' = s.drawn := hm.drawn
        have eo : os' = s.os := hm.os
        subst eg ed eo
        show wpAny _ _ _ _ _ _
        refine wpAny_pure ?_
        show wpAny _ _ (ret Value.none) _ _ _
        rw [List.drop_zero] at hS'
        refine wpAny_pure ⟨rfl, h', tk', rfl, hS', fun b o e => ?_⟩
        have hb0 : b < s.heap.objs.size := Heap.lt_size e
        exact hm.heap b o (by
          intro hbm
          rcases List.mem_cons.mp hbm with z | z
          · exact absurd z (Nat.ne_of_lt hb0)
          · have z' : b = hp1.objs.size := List.mem_singleton.mp z
            rw [hz1] at z'
            exact absurd z' (Nat.ne_of_lt (Nat.lt_succ_of_lt hb0))) (Heap.get?_push_of_some _ (hk1 b o e))
      · cases r₂ with
        | error e => exact hr₂
        | ok fl₂ =>
          cases fl₂ with
          | ret r =>
            obtain ⟨rfl, h', tk, rfl, hS', hk'⟩ := hr₂
            repeat (any_goals (first | assumption | wp_step))
            exact h _ _ hS' hk'
          | _ => exact hr₂.elim
    | _ => exact hr.elim
end
end TL
end
section
set_option maxRecDepth 100000
/-! TS3: sorted(set(x)), len(set(x)). -/
namespace TL
open PySem PySem.Spec PyProof.Rows L2

theorem vals_of_keys {w : World} : ∀ {l : List (Int × Value)}, (∀ e ∈ l, GoodK w e) → Vals ((l.map elK).map kV) (l.map (·.2))
  | [], _ => .nil
  | e :: l, g => by
    obtain ⟨k, r, _⟩ := g e List.mem_cons_self
    refine .cons ?_ (vals_of_keys fun e' he => g e' (List.mem_cons_of_mem _ he))
    rw [elK_of r]
    exact r
theorem vals_perm {us us' : List Value} (p : us'.Perm us) : ∀ {ks : List Key}, Vals (ks.map kV) us → ∃ ks' : List Key, ks'.Perm ks ∧ Vals (ks'.map kV) us' := by
  induction p with
  | nil => intro ks h; exact ⟨ks, List.Perm.refl _, h⟩
  | @cons x l1 l2 _ ih =>
    intro ks h
    cases ks with
    | nil => cases h
    | cons k ks =>
      cases h with
      | cons a h =>
        obtain ⟨ks', p', h'⟩ := ih h
        exact ⟨k :: ks', p'.cons k, .cons a h'⟩
  | @swap x y l =>
    intro ks h
    cases ks with
    | nil => cases h
    | cons k ks =>
      cases h with
      | cons a h =>
        cases ks with
        | nil => cases h
        | cons k2 ks =>
          cases h with
          | cons b h => exact ⟨k2 :: k :: ks, List.Perm.swap _ _ _, .cons b (.cons a h)⟩
  | trans _ _ ih1 ih2 =>
    intro ks h
    obtain ⟨k1, p1, h1⟩ := ih2 h
    obtain ⟨k2, p2, h2⟩ := ih1 h1
    exact ⟨k2, p2.trans p1, h2⟩
section
variable {P : Program} {w : World} {A : Around} {E : Value → Shared → Prop} {s : Shared} {a : Addr} {ks : List Key}
/-- sorted(s), up to the sort itself -/
theorem sortG (R : SetG w s.heap a ks) (hh : A.handled = none) {Q : Value → Shared → Prop} (hs : ∀ (s1 : Shared) (vs : List Value) (ks' : List Key), (∀ b o, s.heap.get? b = some o → s1.heap.get? b = some o) → s.heap.objs.size ≤ s1.heap.objs.size → s1.gens = s.gens → s1.os = s.os → ks'.Perm ks → Vals (ks'.map kV) vs →
      ∀ (A' : Around) (E' : Value → Shared → Prop), wpAny (model P w) A' (Builtin.«list.sort» ⟨[.ref s1.heap.objs.size], []⟩) (fun r s2 => r = .done (.ret .none) ∧ ∃ out, s2 = { s1 with heap := sortedHeap (s1.heap.push (seqObj "list" vs.toArray 0)) s1.heap.objs.size vs out } ∧ Q (.ref s1.heap.objs.size) s2) E' { s1 with heap := s1.heap.push (seqObj "list" vs.toArray 0) }) :
    wpAny (model P w) A (call (.builtin "sorted") [.ref a]) Q E s := by
  obtain ⟨o, es, ep, t, eo, ex, ed, g, pm0, nd, bd, ef, er, el⟩ := R
  have z0 : es.size = ks.length := by rw [← pm0.length_eq, List.length_map, Array.length_toList]
  have b0 : es.size < scanBound := by rw [z0]; exact bd
  refine Calls.call_function_entry kind_sorted plain_sorted entry_sorted (args_sorted1 _) ?_
  unfold Builtin.«sorted»
  refine wpAny_bind (m := checkCount "sorted" 1 1 _) (wpAny_pure ?_)
  refine wpAny_bind (collect_set (A := A.in1) hh ⟨o, eo, ex.1, ed⟩ ef b0 er el fun s1 vs k1 hz g1 o1 pm => ?_)
  have hvl : vs.length = es.size := by rw [pm.length_eq, List.length_map, Array.length_toList]
  obtain ⟨ks', p1, v1⟩ := vals_perm pm (vals_of_keys g)
  refine wpAny_bind (wpAny_newList ?_ (by rw [hvl]; exact fits_of_scanBound b0))
  have hoL : (s1.heap.push (seqObj "list" vs.toArray 0)).get? s1.heap.objs.size = some (seqObj "list" vs.toArray 0) := Heap.get?_push_size _ rfl
  refine wpAny_bind (wpAny_holding (wpAny_call_entry slot_list_sort ⟨_, hoL, rfl⟩ entry_list_sort (thn (hs s1 vs ks' k1 hz g1 o1 (p1.trans pm0) v1 A.in1.in1 E) fun r s2 h2 => ?_) (args_list_sort _)))
  obtain ⟨rfl, out, e, q⟩ := h2
  exact ⟨_, rfl, wpAny_pure ⟨_, rfl, q⟩⟩
end
/-- each once, in the order of coming -/
def uniq {α : Type} [DecidableEq α] : List α → List α → List α
  | acc, [] => acc
  | acc, k :: ks => uniq (if k ∈ acc then acc else acc ++ [k]) ks
theorem once_map {α : Type} [DecidableEq α] {f : α → Key} (hf : ∀ a b, f a = f b → a = b) : ∀ (l acc : List α), onceK (acc.map f) (l.map f) = (uniq acc l).map f
  | [], acc => rfl
  | k :: l, acc => by
    have e : (if f k ∈ acc.map f then acc.map f else acc.map f ++ [f k]) = (if k ∈ acc then acc else acc ++ [k]).map f := by
      by_cases h : k ∈ acc
      · rw [if_pos h, if_pos (List.mem_map_of_mem h)]
      · rw [if_neg h, if_neg (fun z => h (by obtain ⟨b, hb, e⟩ := List.mem_map.mp z; rw [← hf _ _ e]; exact hb)), List.map_append]; rfl
    show onceK _ (l.map f) = _
    rw [e, once_map hf l]
    rfl
theorem uniq_len {α : Type} [DecidableEq α] : ∀ (l acc : List α), (uniq acc l).length ≤ acc.length + l.length
  | [], acc => by simp [uniq]
  | k :: l, acc => by
    have h := uniq_len l (if k ∈ acc then acc else acc ++ [k])
    unfold uniq
    split at h <;> simp_all <;> omega
theorem mem_uniq {α : Type} [DecidableEq α] {x : α} : ∀ {l acc : List α}, x ∈ uniq acc l ↔ x ∈ acc ∨ x ∈ l
  | [], acc => by simp [uniq]
  | k :: l, acc => by
    unfold uniq
    rw [mem_uniq (l := l)]
    split
    · rename_i h
      simp only [List.mem_cons]
      constructor
      · rintro (a | a)
        · exact .inl a
        · exact .inr (.inr a)
      · rintro (a | a | a)
        · exact .inl a
        · exact .inl (a ▸ h)
        · exact .inr a
    · rw [List.mem_append, List.mem_singleton, List.mem_cons]
      constructor
      · rintro ((a | a) | a)
        · exact .inl a
        · exact .inr (.inl a)
        · exact .inr (.inr a)
      · rintro (a | a | a)
        · exact .inl (.inl a)
        · exact .inl (.inr a)
        · exact .inr a
theorem nodup_uniq {α : Type} [DecidableEq α] : ∀ {l acc : List α}, acc.Nodup → (uniq acc l).Nodup
  | [], acc, h => h
  | k :: l, acc, h => by
    unfold uniq
    refine nodup_uniq ?_
    split
    · exact h
    · rename_i hk
      exact List.nodup_append.mpr ⟨h, List.nodup_cons.mpr ⟨List.not_mem_nil, List.nodup_nil⟩, fun x hx y hy e => hk (by rw [← List.mem_singleton.mp hy, ← e]; exact hx)⟩
def sortN (ns : List Nat) : List Nat := ns.mergeSort fun a b => decide (a ≤ b)
theorem sortN_perm (ns : List Nat) : (sortN ns).Perm ns := List.mergeSort_perm ns _
theorem sortN_le (ns : List Nat) : (sortN ns).Pairwise (· ≤ ·) := by
  have := List.pairwise_mergeSort (le := fun (a b : Nat) => decide (a ≤ b)) (fun a b c h k => by simp at *; omega) (fun a b => by simp; omega) ns
  exact this.imp fun h => by simpa using h
theorem sortedN_one : ∀ {xs ys : List Nat}, xs.Perm ys → xs.Pairwise (· ≤ ·) → ys.Pairwise (· ≤ ·) → xs = ys
  | [], ys, p, _, _ => by
    have := p.length_eq
    cases ys with
    | nil => rfl
    | cons y ys => simp at this
  | x :: xs, ys, p, hx, hy => by
    cases ys with
    | nil => have := p.length_eq; simp at this
    | cons y ys =>
      obtain ⟨h1, h2⟩ := List.pairwise_cons.mp hx
      obtain ⟨k1, k2⟩ := List.pairwise_cons.mp hy
      have e : x = y := by
        have a : x ∈ y :: ys := p.subset (List.mem_cons_self ..)
        have b : y ∈ x :: xs := p.symm.subset (List.mem_cons_self ..)
        rcases List.mem_cons.mp a with a | a
        · exact a
        · rcases List.mem_cons.mp b with b | b
          · exact b.symm
          · have c := h1 y b
            have d := k1 x a
            omega
      subst e
      rw [sortedN_one (List.Perm.cons_inv p) h2 k2]
theorem perm_map {α β : Type} {f : α → β} {ys : List β} {l : List α} (p : ys.Perm (l.map f)) : ∃ xs : List α, ys = xs.map f ∧ xs.Perm l := by
  generalize e : l.map f = zs at p
  induction p generalizing l with
  | nil => cases l with
    | nil => exact ⟨[], rfl, List.Perm.refl _⟩
    | cons a l => simp at e
  | @cons x l1 l2 _ ih =>
    cases l with
    | nil => simp at e
    | cons a l =>
      rw [List.map_cons] at e
      cases e
      obtain ⟨xs, e2, p2⟩ := ih rfl
      exact ⟨a :: xs, by rw [List.map_cons, e2], p2.cons a⟩
  | @swap x y l0 =>
    cases l with
    | nil => simp at e
    | cons a l =>
      cases l with
      | nil => simp at e
      | cons b l =>
        rw [List.map_cons, List.map_cons] at e
        cases e
        exact ⟨b :: a :: l, rfl, List.Perm.swap _ _ _⟩
  | trans _ _ ih1 ih2 =>
    obtain ⟨x2, e2, p2⟩ := ih2 e
    obtain ⟨x1, e1, p1⟩ := ih1 e2.symm
    exact ⟨x1, e1, p1.trans p2⟩
def sg (c : Nat) : Str := ⟨#[c]⟩
theorem rising_le : ∀ {l : List Nat} {p : Nat}, risingS (sg p) (l.map sg) = true → (p :: l).Pairwise (· ≤ ·)
  | [], p, _ => List.pairwise_singleton _ _
  | x :: l, p, h => by
    have h' : (!ltCps (sg x).cps.toList (sg p).cps.toList && risingS (sg x) (l.map sg)) = true := h
    rw [Bool.and_eq_true] at h'
    have r := rising_le h'.2
    have hp : p ≤ x := by
      have h1 := h'.1
      rw [ltCps_eq] at h1
      have h2 : ¬ ([x] < [p]) := fun z => by simp [sg, z] at h1
      rcases Nat.lt_or_ge x p with z | z
      · exact absurd (List.Lex.rel z) h2
      · exact z
    refine List.pairwise_cons.mpr ⟨fun y hy => ?_, r⟩
    rcases List.mem_cons.mp hy with e | hy
    · rw [e]; exact hp
    · exact Nat.le_trans hp ((List.pairwise_cons.mp r).1 y hy)
theorem sortedS_le : ∀ {l : List Nat}, sortedS (l.map sg) = true → l.Pairwise (· ≤ ·)
  | [], _ => List.Pairwise.nil
  | x :: l, h => rising_le h
section
variable {X : Cx} {M : Mp} {ρ : En} {Q : DQ} {e : Expr} {p p2 q pos : Pos}
/-- what may be made a set, as keys -/
inductive IsSrc : D → List Key → Prop
  | tupI (ns : List Int) : IsSrc (.tup (ns.map D.int)) (ns.map Sum.inl)
  | lstI (ns : List Int) : IsSrc (.lst (ns.map D.int)) (ns.map Sum.inl)
  | str (x : List Nat) : IsSrc (.str x) (x.map fun c => Sum.inr (sg c))
theorem map_kV (ns : List Int) : (ns.map (Sum.inl : Int → Key)).map kV = ns.map V.int := by rw [List.map_map]; rfl
theorem src_call {pins : Pins} {σ : SS} {H F : Hp} {s : Shared} {v : V} {u : Value} {d : D} {ks : List Key} {A : Around} {E : Value → Shared → Prop} {Q' : Value → Shared → Prop} (hh : A.handled = none) (I : Inv X pins σ H s) (g : Sub F H) (r : RelV v u) (rp : Rep X.K F v d) (hs : IsSrc d ks) (hb : ks.length + 1 < scanBound)
    (h : ∀ (h' : Heap) (tk : Nat), SetG X.w h' s.heap.objs.size (onceK [] ks) → (∀ b o, s.heap.get? b = some o → h'.get? b = some o) → Q' (.ref s.heap.objs.size) { s with heap := h', toks := tk }) :
    wpAny (model X.prog X.w) A (call (.type "set") [u]) Q' E s := by
  cases hs with
  | tupI ns =>
    cases rp with
    | tup q rr =>
      cases r
      obtain rfl := reps_ints rr
      obtain ⟨its, rv, pl, hz⟩ := I.tuple (g.sqT q)
      obtain ⟨o, ho, hc, n, hd⟩ := id pl
      exact setG_call hh (fun s' hk => ⟨o, hk _ _ ho, hc⟩) PySem.F.sub_tuple_set PySem.F.sub_tuple_frozenset (by decide) (SrcIt.tuple pl (by rw [map_kV]; exact rv)) hb h
  | lstI ns =>
    cases rp with
    | lst q rr =>
      cases r
      obtain rfl := reps_ints rr
      obtain ⟨its, rv, pl, hz⟩ := I.list (.inl (g.rd q))
      obtain ⟨o, n, ho, hc, hx, hd⟩ := id pl
      exact setG_call hh (fun s' hk => ⟨o, hk _ _ ho, hc⟩) PySem.F.sub_list_set PySem.F.sub_list_frozenset (by decide) (SrcIt.list pl.isList (by rw [map_kV]; exact rv)) hb h
  | str x =>
    cases rp
    obtain ⟨t, rfl⟩ := r
    exact setG_call hh (fun s' hk => typeIs_str _ _ _) PySem.F.sub_str_set PySem.F.sub_str_frozenset (by decide) (SrcIt.str (x := ⟨x.toArray⟩) (t := t)) hb h
theorem keys_ints {vs : List Value} {ks' : List Key} {l : List Int} (rv : Vals (ks'.map kV) vs) (pk : ks'.Perm (l.map Sum.inl)) : IntsAre vs (ks'.map fun k => match k with | .inl i => i | .inr _ => 0) ∧ (ks'.map fun k : Key => match k with | .inl i => i | .inr _ => (0 : Int)).Perm l := by
  refine ⟨?_, ?_⟩
  · have hall : ∀ k ∈ ks', ∃ i : Int, k = Sum.inl i := fun k hk => by
      obtain ⟨i, _, e⟩ := List.mem_map.mp (pk.mem_iff.mp hk)
      exact ⟨i, e.symm⟩
    clear pk
    induction ks' generalizing vs with
    | nil => cases rv; exact .nil
    | cons k ks' ih =>
      cases rv with
      | cons a rv =>
        obtain ⟨i, rfl⟩ := hall k List.mem_cons_self
        obtain ⟨t, rfl⟩ := a
        exact .cons i t (ih rv fun k hk => hall k (List.mem_cons_of_mem _ hk))
  · have := pk.map fun k : Key => match k with | .inl i => i | .inr _ => (0 : Int)
    rw [List.map_map] at this
    simpa [Function.comp_def] using this
theorem keys_strs {vs : List Value} {ks' : List Key} {l : List Nat} (rv : Vals (ks'.map kV) vs) (pk : ks'.Perm (l.map fun c => Sum.inr (sg c))) : ∃ cs : List Nat, StrsAre vs (cs.map sg) ∧ cs.Perm l := by
  obtain ⟨cs, rfl, p⟩ : ∃ cs : List Nat, ks' = cs.map (fun c => (Sum.inr (sg c) : Key)) ∧ cs.Perm l := perm_map pk
  refine ⟨cs, ?_, p⟩
  clear pk p
  induction cs generalizing vs with
  | nil => cases rv; exact .nil
  | cons c cs ih =>
    cases rv with
    | cons a rv =>
      obtain ⟨t, rfl⟩ := a
      exact .cons (sg c) t (ih rv)
/-- a sorted list stands -/
theorem sort_fin {pins : Pins} {σ : SS} {H : Hp} {s1 s2 : Shared} {vs : List Value} {out : Array Value} {ws : List V} (I : Inv X pins σ H s1) (k : ∀ b o, s1.heap.get? b = some o → s2.heap.get? b = some o) (hz : s1.heap.objs.size ≤ s2.heap.objs.size) (hg : s2.gens = s1.gens) (ho : s2.os = s1.os)
    (hV : Vals ws out.toList) (hl : ws.length ≤ sizeLine) : Inv X pins σ (upd H s2.heap.objs.size (.lst ws)) { s2 with heap := sortedHeap (s2.heap.push (seqObj "list" vs.toArray 0)) s2.heap.objs.size vs out } ∧ H s2.heap.objs.size = none := by
  have hf : H s2.heap.objs.size = none := I.hok.fresh hz
  have hoL : (s2.heap.push (seqObj "list" vs.toArray 0)).get? s2.heap.objs.size = some (seqObj "list" vs.toArray 0) := Heap.get?_push_size _ rfl
  obtain ⟨c, hc⟩ := sortedHeap_at (vs := vs) (out := out) hoL
  have kk : ∀ b u, s1.heap.get? b = some u → (sortedHeap (s2.heap.push (seqObj "list" vs.toArray 0)) s2.heap.objs.size vs out).get? b = some u := fun b u e => by
    have q := k b u e
    have hlt := Heap.lt_size q
    rw [sortedHeap_old (Nat.ne_of_lt hlt) (by rw [size_push']; exact Nat.lt_succ_of_lt hlt)]
    exact Heap.get?_push_of_some _ q
  exact ⟨I.call' (ch := []) ho (Un.laid kk hz hf) (I.hok.laid kk hz ⟨hl, out.toList, c, hV, hc⟩) (by show AllBare s2.gens; rw [hg]; exact I.bare) (fun _ z => nomatch z), hf⟩
/-- len(set(e)) -/
theorem WE.lenSet (hc : X.calm = true) (hm : X.mg "len" = none) (hm2 : X.mg "set" = none) (h : WE X e ρ M fun d M1 => ∃ ks, IsSrc d ks ∧ ks.length + 1 < scanBound ∧ Q (.int (onceK [] ks).length) M1) (hg : Gl X "len" := by rfl) (hg2 : Gl X "set" := by rfl)
    (na : starEach [e] X.env = (false, eval e X.env) :: starEach [] X.env := by rfl) : WE X (.Call (.Name "len" p) [.Call (.Name "set" p2) [e] [] q] [] pos) ρ M Q := by
  refine ⟨fun pins s σ H F I S => ?_⟩
  refine Call_ (ld_blt I hg hm boot_len ?_)
  refine PyProof.Rows.callWith_builtin1 (PyProof.Rows.args_cons ?_ rfl) rfl rfl
  refine Call_ (ld_blt I hg2 hm2 boot_set ?_)
  refine PyProof.Rows.callWith_type1 (PyProof.Rows.args_cons (thn (h.run pins s σ H F I S) fun u s1 ⟨v, H1, F1, M1, d, I1, r1, t1, p1, ks, hs, hb, q1⟩ => PyProof.Rows.args_nil ?_) na) na rfl
  refine src_call (I1.ok.hd hc) I1 t1.good.sub r1 p1 hs hb fun h' tk R hk => PyProof.Rows.args_nil ?_
  obtain ⟨o, es, ep, t, ho, hex, hd, hf, hn⟩ := R.size
  have I2 : Inv X pins σ H1 { s1 with heap := h', toks := tk } := I1.kept hk
  have hl : (onceK [] ks).length < scanBound := Nat.lt_of_le_of_lt (once_len ks []) (by simpa using Nat.lt_of_succ_lt hb)
  have hsb : scanBound = 4096 := rfl
  refine call_len_set ho hex hd hf (by rw [hn]; omega) ⟨.int (onceK [] ks).length, H1, F1, M1, _, I2.tok _, ⟨_, by rw [hn]⟩, t1, .int _, q1⟩
/-- sorted(set(e)) of ints -/
theorem WE.sortedSetI (hc : X.calm = true) (hm : X.mg "sorted" = none) (hm2 : X.mg "set" = none) (h : WE X e ρ M fun d M1 => ∃ ns : List Int, IsSrc d (ns.map Sum.inl) ∧ ns.length + 1 < scanBound ∧ Q (.lst ((sortI (uniq [] ns)).map D.int)) M1) (hg : Gl X "sorted" := by rfl) (hg2 : Gl X "set" := by rfl)
    (na : starEach [e] X.env = (false, eval e X.env) :: starEach [] X.env := by rfl) : WE X (.Call (.Name "sorted" p) [.Call (.Name "set" p2) [e] [] q] [] pos) ρ M Q := by
  refine ⟨fun pins s σ H F I S => ?_⟩
  refine Call_ (ld_blt I hg hm (by decide +kernel : bootBuiltins "sorted" = some (.builtin "sorted")) ?_)
  refine PyProof.Rows.callWith_builtin1 (PyProof.Rows.args_cons ?_ rfl) rfl rfl
  refine Call_ (ld_blt I hg2 hm2 boot_set ?_)
  refine PyProof.Rows.callWith_type1 (PyProof.Rows.args_cons (thn (h.run pins s σ H F I S) fun u s1 ⟨v, H1, F1, M1, d, I1, r1, t1, p1, ns, hs, hb, q1⟩ => PyProof.Rows.args_nil ?_) na) na rfl
  refine src_call (I1.ok.hd hc) I1 t1.good.sub r1 p1 hs (by simpa using hb) fun h' tk R hk => PyProof.Rows.args_nil ?_
  have I2 : Inv X pins σ H1 { s1 with heap := h', toks := tk } := I1.kept hk
  have e0 : onceK [] (ns.map Sum.inl) = (uniq [] ns).map (Sum.inl : Int → Key) := once_map (f := (Sum.inl : Int → Key)) (fun a b z => Sum.inl.inj z) ns []
  rw [e0] at R
  refine sortG R (I2.ok.hd hc) fun s2 vs ks' k2 hz g2 o2 pk rv A' E' => ?_
  obtain ⟨hI, pI⟩ := keys_ints rv pk
  have hvl : vs.length ≤ sizeLine := by
    have a := uniq_len ns []
    have b : vs.length = (uniq [] ns).length := by rw [← rv.length, List.length_map, pk.length_eq, List.length_map]
    have c : scanBound = 4096 := rfl
    have d := sizeLine_eq
    simp at a
    omega
  refine list_sort_treeAny (s := { s2 with heap := s2.heap.push (seqObj "list" vs.toArray 0) }) (Heap.get?_push_size _ rfl) hI hvl fun out ns' h1 h2 h3 => ⟨rfl, out, rfl, ?_⟩
  have en := sorted_one (h2.trans (pI.trans (sortI_perm _).symm)) h3 (sortI_le _)
  subst en
  have hlen : ((sortI (uniq [] ns)).map V.int).length ≤ sizeLine := by
    rw [List.length_map, h2.length_eq, ← hI.length]
    exact hvl
  obtain ⟨I3, hf⟩ := sort_fin I2 k2 hz g2 o2 (out := out) (vals_of_ints h1) hlen
  have t2 := Stp.new (o := .lst ((sortI (uniq [] ns)).map V.int)) t1.good hf
  exact ⟨.ref _, _, _, M1, _, I3, rfl, t1.trans t2, .lst (.of upd_same) (rep_ints _), q1⟩
/-- sorted(set(e)) of a text's signs -/
theorem WE.sortedSetS (hc : X.calm = true) (hm : X.mg "sorted" = none) (hm2 : X.mg "set" = none) (h : WE X e ρ M fun d M1 => ∃ x : List Nat, d = .str x ∧ x.length + 1 < scanBound ∧ Q (.lst ((sortN (uniq [] x)).map fun c => .str [c])) M1) (hg : Gl X "sorted" := by rfl) (hg2 : Gl X "set" := by rfl)
    (na : starEach [e] X.env = (false, eval e X.env) :: starEach [] X.env := by rfl) : WE X (.Call (.Name "sorted" p) [.Call (.Name "set" p2) [e] [] q] [] pos) ρ M Q := by
  refine ⟨fun pins s σ H F I S => ?_⟩
  refine Call_ (ld_blt I hg hm (by decide +kernel : bootBuiltins "sorted" = some (.builtin "sorted")) ?_)
  refine PyProof.Rows.callWith_builtin1 (PyProof.Rows.args_cons ?_ rfl) rfl rfl
  refine Call_ (ld_blt I hg2 hm2 boot_set ?_)
  refine PyProof.Rows.callWith_type1 (PyProof.Rows.args_cons (thn (h.run pins s σ H F I S) fun u s1 ⟨v, H1, F1, M1, d, I1, r1, t1, p1, x, hd, hb, q1⟩ => PyProof.Rows.args_nil ?_) na) na rfl
  subst hd
  refine src_call (I1.ok.hd hc) I1 t1.good.sub r1 p1 (IsSrc.str x) (by simpa using hb) fun h' tk R hk => PyProof.Rows.args_nil ?_
  have I2 : Inv X pins σ H1 { s1 with heap := h', toks := tk } := I1.kept hk
  have e0 : onceK [] (x.map fun c => Sum.inr (sg c)) = (uniq [] x).map fun c => (Sum.inr (sg c) : Key) := once_map (f := fun c => (Sum.inr (sg c) : Key)) (fun a b z => by
    have := Sum.inr.inj z
    simpa [sg] using this) x []
  rw [e0] at R
  refine sortG R (I2.ok.hd hc) fun s2 vs ks' k2 hz g2 o2 pk rv A' E' => ?_
  obtain ⟨cs, hS, pI⟩ := keys_strs rv pk
  have hvl : vs.length ≤ sizeLine := by
    have a := uniq_len x []
    have b : vs.length = (uniq [] x).length := by rw [← rv.length, List.length_map, pk.length_eq, List.length_map]
    have c : scanBound = 4096 := rfl
    have d := sizeLine_eq
    simp at a
    omega
  refine list_sort_treeKAny (s := { s2 with heap := s2.heap.push (seqObj "list" vs.toArray 0) }) strKind_oneLt (Heap.get?_push_size _ rfl) hS.keysOf (fun v₁ v₂ rest e => keyKind_strs (by rw [← e]; exact hS)) hvl fun st' hp hs => ⟨rfl, (arrOf st').map (·.2), rfl, ?_⟩
  obtain ⟨ss', h1, h2, h3⟩ := sorted_out_str hS hp hs
  obtain ⟨cs', rfl, p3⟩ : ∃ cs' : List Nat, ss' = cs'.map sg ∧ cs'.Perm cs := perm_map h2
  have en := sortedN_one (p3.trans (pI.trans (sortN_perm _).symm)) (sortedS_le h3) (sortN_le _)
  subst en
  have hv := vals_of_strs h1
  have hlen : (((sortN (uniq [] x)).map sg).map V.str).length ≤ sizeLine := by
    rw [hv.length, h1.len_eq, List.length_map, p3.length_eq, ← List.length_map (f := sg), ← hS.len_eq]
    exact hvl
  obtain ⟨I3, hf⟩ := sort_fin I2 k2 hz g2 o2 (out := (arrOf st').map (·.2)) hv hlen
  have t2 := Stp.new (o := .lst (((sortN (uniq [] x)).map sg).map V.str)) t1.good hf
  refine ⟨.ref _, _, _, M1, _, I3, rfl, t1.trans t2, .lst (.of upd_same) ?_, q1⟩
  have := rep_strs (K := X.K) (F := upd F1 s2.heap.objs.size (.lst (((sortN (uniq [] x)).map sg).map V.str))) ((sortN (uniq [] x)).map fun c => [c])
  simpa [List.map_map, Function.comp_def, sg] using this
end
end TL
end
section
set_option maxRecDepth 100000
set_option maxHeartbeats 2000000
/-! TZ2: several new things at once; list(zip(a, b)), dict(pairs), over tree values. -/
namespace TL
open PySem PySem.Spec PyProof.Rows L2

/-- the things G laid over H -/
def lay (H : Hp) (G : List (Addr × HO)) : Hp := fun b => match G.lookup b with
  | some o => some o
  | none => H b
theorem lay_some {H : Hp} {G : List (Addr × HO)} {b : Addr} {o : HO} (h : G.lookup b = some o) : lay H G b = some o := by unfold lay; rw [h]
theorem lay_none {H : Hp} {G : List (Addr × HO)} {b : Addr} (h : G.lookup b = none) : lay H G b = H b := by unfold lay; rw [h]
theorem lay_keep {H H0 : Hp} {G : List (Addr × HO)} (hn : ∀ b o, G.lookup b = some o → H0 b = none) {b : Addr} {o : HO} (h0 : H0 b = some o) : lay H G b = H b := by
  cases e : G.lookup b with
  | none => exact lay_none e
  | some u => rw [hn b u e] at h0; cases h0
section
variable {K : PySem.W.Frag} {H F : Hp} {M : Mp} {G : List (Addr × HO)}
theorem Stp.lay (r : Good K H F M) (hn : ∀ b o, G.lookup b = some o → H b = none) : Stp K H F M (TL.lay H G) (TL.lay F G) M := by
  have sF : Sub F (TL.lay F G) := fun b o e => by rw [lay_keep hn (r.sub b o e)]; exact e
  refine ⟨fun b o e m => ⟨by rw [lay_keep hn e]; exact e, m⟩, sF, fun b o e => ?_, ⟨fun b o e => ?_, fun b m e => ?_, fun b m e => ?_⟩⟩
  · cases q : G.lookup b with
    | none => rw [lay_none q] at e; exact .inl e
    | some u => exact .inr (.inr (hn b u q))
  · cases q : G.lookup b with
    | none => rw [lay_none q] at e ⊢; exact r.sub b o e
    | some u => rw [lay_some q] at e ⊢; exact e
  · obtain ⟨o, ho, _⟩ := r.real b m e
    rw [lay_keep hn ho]
    exact r.dis b m e
  · obtain ⟨o, ho, ro⟩ := r.real b m e
    exact ⟨o, by rw [lay_keep hn ho]; exact ho, ro.mono sF⟩
end
section
variable {X : Cx} {pins : Pins} {σ : SS} {H : Hp} {s : Shared} {G : List (Addr × HO)} {h' : Heap} {tk : Nat}
theorem inv_lay (I : Inv X pins σ H s) (hk : ∀ b o, s.heap.get? b = some o → h'.get? b = some o) (hn : ∀ b o, G.lookup b = some o → s.heap.objs.size ≤ b) (hok : ∀ b o, G.lookup b = some o → ObjOk X.prog X.w (lay H G) h' b o) :
    Inv X pins σ (lay H G) { s with heap := h', toks := tk } := by
  have fr : ∀ b o, G.lookup b = some o → H b = none := fun b o e => I.hok.fresh (hn b o e)
  have kp : ∀ b u, H b = some u → lay H G b = some u := fun b u e => by rw [lay_keep fr e]; exact e
  refine I.call' (ch := []) rfl ⟨fun b o q _ _ _ => hk b o q, fun b o q _ _ _ => ⟨o.slots, hk b o q⟩, fun b o q n _ => ?_, fun b o q _ => ⟨o, hk b o q⟩, fun b xs q => kp b _ q, fun b o u q => kp b _ q, fun b ps q => ⟨#[], by rw [kp b _ q]; simp⟩⟩ (fun b u q => ?_) I.bare fun b z => by simp at z
  · cases e : G.lookup b with
    | none => rw [lay_none e]; exact n
    | some u => exact absurd (Heap.lt_size q) (Nat.not_lt.mpr (hn b u e))
  · cases e : G.lookup b with
    | some o =>
      rw [lay_some e] at q
      exact hok b u (e.trans q)
    | none =>
      rw [lay_none e] at q
      exact (I.hok b u q).stay (fun d v _ y => hk d v y) (fun d y => kp d _ y) fun d xs y => kp d _ y
end
/-! ### list(zip(a, b)) -/
def prT (as : List Addr) (ps : List (V × V)) : List (Addr × HO) := (as.zip ps).map fun q => (q.1, HO.tup [q.2.1, q.2.2])
theorem prT_some : ∀ {as : List Addr} {ps : List (V × V)} {b : Addr} {o : HO}, (prT as ps).lookup b = some o → ∃ (j : Nat) (p : V × V), as[j]? = some b ∧ ps[j]? = some p ∧ o = .tup [p.1, p.2]
  | [], _, _, _, h => by cases h
  | _ :: _, [], _, _, h => by cases h
  | a :: as, p :: ps, b, o, h => by
    have h2 : (match b == a with | true => some (HO.tup [p.1, p.2]) | false => (prT as ps).lookup b) = some o := h
    cases e : b == a with
    | true =>
      rw [e] at h2
      cases h2
      exact ⟨0, p, by rw [beq_iff_eq.mp e]; rfl, rfl, rfl⟩
    | false =>
      rw [e] at h2
      obtain ⟨j, q, e1, e2, e3⟩ := prT_some h2
      exact ⟨j + 1, q, by simpa using e1, by simpa using e2, e3⟩
theorem prT_at : ∀ {as : List Addr} {ps : List (V × V)} {j : Nat} {a : Addr} {p : V × V}, as.Nodup → as[j]? = some a → ps[j]? = some p → (prT as ps).lookup a = some (.tup [p.1, p.2])
  | [], _, _, _, _, _, h, _ => by simp at h
  | _ :: _, [], _, _, _, _, _, h => by simp at h
  | b :: as, q :: ps, 0, a, p, _, h1, h2 => by
    simp at h1 h2
    subst h1 h2
    show (match b == b with | true => some (HO.tup [q.1, q.2]) | false => (prT as ps).lookup b) = _
    simp
  | b :: as, q :: ps, j + 1, a, p, hn, h1, h2 => by
    simp at h1 h2
    have hb := List.nodup_cons.mp hn
    have ne : (a == b) = false := by
      rw [beq_eq_false_iff_ne]
      intro e
      exact hb.1 (e ▸ List.mem_of_getElem? h1)
    show (match a == b with | true => some (HO.tup [q.1, q.2]) | false => (prT as ps).lookup a) = _
    rw [ne]
    exact prT_at hb.2 h1 h2
/-- the pairs as data -/
def zpT (xs ys : List D) : List D := List.zipWith (fun x y => D.tup [x, y]) xs ys
section
variable {X : Cx} {ρ : En} {M : Mp} {Q : DQ} {e e2 : Expr} {p p2 pos pos2 : Pos}
theorem WE.listZip (hc : X.calm = true) (hml : X.mg "list" = none) (hmz : X.mg "zip" = none) (h : WA X [e, e2] ρ M fun ds M1 => ∃ xs ys, ds = [.tup xs, .tup ys] ∧ xs.length = ys.length ∧ Q (.lst (zpT xs ys)) M1)
    (hg : Gl X "list" := by rfl) (hg2 : Gl X "zip" := by rfl) (hs : starEach [.Call (.Name "zip" p2) [e, e2] [] pos2] X.env = (false, eval (.Call (.Name "zip" p2) [e, e2] [] pos2) X.env) :: starEach [] X.env := by rfl)
    (hs2 : starEach [e, e2] X.env = (false, eval e X.env) :: starEach [e2] X.env := by rfl) (hpl : (backTo pos2 (starEach [e2] X.env)).any (·.1) = false := by rfl) :
    WE X (.Call (.Name "list" p) [.Call (.Name "zip" p2) [e, e2] [] pos2] [] pos) ρ M Q := by
  refine ⟨fun pins s σ H F I S => ?_⟩
  refine wpAny_Call_Name_kw (ld_blt I hg hml (by rfl) ?_)
  refine PyProof.Rows.callWith_type1 ?_ hs rfl
  rw [hs]
  show wpAny _ _ (spliced ((false, eval (.Call (.Name "zip" p2) [e, e2] [] pos2) X.env) :: backTo pos (starEach [] X.env))) _ _ s
  refine Calls.spliced_cons ?_
  refine Call_ (ld_blt I hg2 hmz PyProof.Rows.boot_zip (PyProof.Rows.callWith_type1 (thn (h.run pos2 pins s σ H F I S) fun us s1 ⟨vs, H1, F1, M1, ds, I1, r1, t1, p1, xs, ys, ed, hl, q⟩ => ?_) hs2 hpl))
  subst ed
  cases p1 with
  | cons pa p1 =>
    cases p1 with
    | cons pb p1 =>
      cases p1
      cases r1 with
      | cons ra r1 =>
        cases r1 with
        | cons rb r1 =>
          cases r1
          cases pa with
          | @tup a va _ sa rpa =>
            cases pb with
            | @tup b vb _ sb rpb =>
              cases ra
              cases rb
              obtain ⟨ia, wa, ta, za⟩ := I1.tuple (t1.good.sub.sqT sa)
              obtain ⟨ib, wb, tb, zb⟩ := I1.tuple (t1.good.sub.sqT sb)
              have la : a < s1.heap.objs.size := by obtain ⟨_, e, _⟩ := ta; exact Heap.lt_size e
              have lb : b < s1.heap.objs.size := by obtain ⟨_, e, _⟩ := tb; exact Heap.lt_size e
              have n1 := wa.length
              have n2 := wb.length
              have n3 := rpa.length
              have n4 := rpb.length
              refine RZ.call_zipT ta tb fun h5 z1 z2 z3 z4 z5 z6 kp => ?_
              refine Calls.spliced_nil ?_
              have ta' : s1.heap.IsTuple a ia.toArray := ta
              have tb' : s1.heap.IsTuple b ib.toArray := tb
              have ka := ta'.at fun o e => kp _ o e
              have kb := tb'.at fun o e => kp _ o e
              refine ZL.call_list (I1.ok.hd hc) (by simp; omega) (by simpa using (n1 ▸ za)) rfl z6 z1 z2 z3 z4 z5 ka kb la lb fun h' tk acc c as hk hS hlen hG hacc => ?_
              let G : List (Addr × HO) := (s1.heap.objs.size + 5, .lst (as.map V.ref)) :: prT as (va.zip vb)
              have nd : as.Nodup := List.Pairwise.imp (fun {a b} (h : a < b) => Nat.ne_of_lt h) hG.rise
              have cs : ∀ b o, G.lookup b = some o → (b = s1.heap.objs.size + 5 ∧ o = .lst (as.map V.ref)) ∨ (b ≠ s1.heap.objs.size + 5 ∧ (prT as (va.zip vb)).lookup b = some o) := fun b o h => by
                have h2 : (match b == s1.heap.objs.size + 5 with | true => some (HO.lst (as.map V.ref)) | false => (prT as (va.zip vb)).lookup b) = some o := h
                cases e : b == s1.heap.objs.size + 5 with
                | true =>
                  rw [e] at h2
                  exact .inl ⟨beq_iff_eq.mp e, (Option.some.inj h2).symm⟩
                | false =>
                  rw [e] at h2
                  exact .inr ⟨by simpa using e, h2⟩
              have big : ∀ b o, G.lookup b = some o → s1.heap.objs.size ≤ b := fun b o h => by
                rcases cs b o h with ⟨e, _⟩ | ⟨_, h⟩
                · rw [e]; exact Nat.le_add_right _ _
                · obtain ⟨j, p, e1, _, _⟩ := prT_some h
                  exact Nat.le_trans (Nat.le_add_right _ _) (Nat.le_of_lt (hG.above b (List.mem_of_getElem? e1)))
              have I2 : Inv X pins σ (lay H1 G) { s1 with heap := h', toks := tk } := inv_lay I1 (fun b o e => hk b o e (kp b o e)) big fun b o h => by
                rcases cs b o h with ⟨rfl, rfl⟩ | ⟨_, h⟩
                · refine ⟨by rw [List.length_map, hlen]; simpa using (n1 ▸ za), acc.toList, c, by rw [hacc]; exact LiI.vals_refs as, ?_⟩
                  rw [Array.toArray_toList]
                  exact hS
                · obtain ⟨j, p, e1, e2, rfl⟩ := prT_some h
                  obtain ⟨x, y, f1, f2, f3⟩ := hG.pairs j b e1
                  have e2' := List.getElem?_zip_eq_some.mp e2
                  obtain ⟨x', g1, g2⟩ := LiI.paired_get wa e2'.1
                  obtain ⟨y', g3, g4⟩ := LiI.paired_get wb e2'.2
                  have f1' : ia[j]? = some x := by simpa using f1
                  have f2' : ib[j]? = some y := by simpa using f2
                  rw [f1'] at g1
                  rw [f2'] at g3
                  cases g1
                  cases g3
                  exact ⟨by show 2 ≤ sizeLine; decide, [x, y], .cons g2 (.cons g4 .nil), ⟨_, f3, rfl, _, rfl⟩⟩
              have t2 := Stp.lay (G := G) t1.good fun b o h => I1.hok.fresh (big b o h)
              have hF : lay F1 G (s1.heap.objs.size + 5) = some (.lst (as.map V.ref)) := lay_some (by
                show (match s1.heap.objs.size + 5 == s1.heap.objs.size + 5 with | true => some (HO.lst (as.map V.ref)) | false => _) = _
                rw [beq_self_eq_true])
              refine ⟨.ref (s1.heap.objs.size + 5), _, _, M1, _, I2, rfl, t1.trans t2, .lst (.of hF) ?_, q⟩
              have key : ∀ (j : Nat) (as' : List Addr) (va' vb' : List V) (xs ys : List D), (∀ i a, as'[i]? = some a → as[j + i]? = some a) → (∀ i v, va'[i]? = some v → va[j + i]? = some v) → (∀ i v, vb'[i]? = some v → vb[j + i]? = some v) →
                  as'.length = xs.length → Reps X.K F1 va' xs → Reps X.K F1 vb' ys → xs.length = ys.length → Reps X.K (lay F1 G) (as'.map V.ref) (zpT xs ys) := by
                intro j as' va' vb' xs ys
                induction xs generalizing j as' va' vb' ys with
                | nil =>
                  intro _ _ _ hl' _ _ _
                  cases as' with
                  | nil => exact .nil
                  | cons => simp at hl'
                | cons x xs ih =>
                  intro h1 h2 h3 hl' ra rb hl2
                  cases ys with
                  | nil => simp at hl2
                  | cons y ys =>
                    cases as' with
                    | nil => simp at hl'
                    | cons a0 as' =>
                      cases ra with
                      | @cons v0 _ _ _ r0 ra =>
                        cases rb with
                        | @cons w0 _ _ _ r0' rb =>
                          have g1 := h1 0 a0 rfl
                          have g2 := h2 0 v0 rfl
                          have g3 := h3 0 w0 rfl
                          have lk : (prT as (va.zip vb)).lookup a0 = some (.tup [v0, w0]) := prT_at (p := (v0, w0)) nd g1 (List.getElem?_zip_eq_some.mpr ⟨g2, g3⟩)
                          have ab := hG.above a0 (List.mem_of_getElem? g1)
                          have hF0 : lay F1 G a0 = some (.tup [v0, w0]) := lay_some (by
                            show (match a0 == s1.heap.objs.size + 5 with | true => some (HO.lst (as.map V.ref)) | false => (prT as (va.zip vb)).lookup a0) = _
                            have : (a0 == s1.heap.objs.size + 5) = false := by simpa using Nat.ne_of_gt ab
                            rw [this]
                            exact lk)
                          refine .cons (.tup (.of hF0) (.cons (t2.rep r0) (.cons (t2.rep r0') .nil))) (ih (j + 1) as' _ _ ys (fun i a q => ?_) (fun i v q => ?_) (fun i v q => ?_) (by simpa using hl') ra rb (by simpa using hl2))
                          · have := h1 (i + 1) a (by simpa using q); rwa [show j + 1 + i = j + (i + 1) from by omega]
                          · have := h2 (i + 1) v (by simpa using q); rwa [show j + 1 + i = j + (i + 1) from by omega]
                          · have := h3 (i + 1) v (by simpa using q); rwa [show j + 1 + i = j + (i + 1) from by omega]
              exact key 0 as va vb xs ys (fun i a q => by simpa using q) (fun i a q => by simpa using q) (fun i a q => by simpa using q) (by rw [hlen]; simp; omega) rpa rpb hl
end
end TL
end
section
set_option maxRecDepth 100000
set_option maxHeartbeats 2000000
/-! TP: displays of dicts, dict(pairs), backward slices, repetition, index in a text, isinstance by own classes, unpacking of lists. -/
namespace TL
open PySem PySem.Spec PyProof.Rows L2

/-! ### what is made and filled by hand -/
section
variable {K : PySem.W.Frag} {H F H2 F2 : Hp} {M M2 : Mp} {p : Addr} {o : HO}
theorem Stp.owned (t : Stp K H F M H2 F2 M2) (h : H p = none) (f : F2 p = none) (m : M2 p = none) : Stp K H F M (upd H2 p o) (upd F2 p o) M2 := by
  refine ⟨fun b u e n => by rw [upd_ne (ne_of_none e h)]; exact t.keep b u e n, t.sub.trans (sub_upd f), fun b u e => ?_, ⟨fun b u e => ?_, fun b m' e => ?_, fun a m' e => ?_⟩⟩
  · by_cases hb : b = p
    · subst hb; exact .inr (.inr h)
    · rw [upd_ne hb] at e; exact t.news b u e
  · by_cases hb : b = p
    · subst hb; rw [upd_same] at e ⊢; exact e
    · rw [upd_ne hb] at e ⊢; exact t.good.sub b u e
  · have hb : b ≠ p := fun z => by rw [z, m] at e; cases e
    rw [upd_ne hb]; exact t.good.dis b m' e
  · have ha : a ≠ p := fun z => by rw [z, m] at e; cases e
    obtain ⟨u, hu, ru⟩ := t.good.real a m' e
    exact ⟨u, by rw [upd_ne ha]; exact hu, ru.mono (sub_upd f)⟩
theorem Stp.ownedM {mo : MO} (t : Stp K H F M H2 F2 M2) (h : H p = none) (f : F2 p = none) (m : M2 p = none) (ro : RepO K F2 o mo) : Stp K H F M (upd H2 p o) F2 (mset M2 p mo) := by
  refine ⟨fun b u e n => ⟨by rw [upd_ne (ne_of_none e h)]; exact (t.keep b u e n).1, by rw [mset_ne (ne_of_none e h)]; exact (t.keep b u e n).2⟩, t.sub, t.news, ⟨fun b u e => ?_, fun b m' e => ?_, fun a m' e => ?_⟩⟩
  · rw [upd_ne (ne_of_none e f)]; exact t.good.sub b u e
  · by_cases hb : b = p
    · subst hb; exact f
    · rw [mset_ne hb] at e; exact t.good.dis b m' e
  · by_cases ha : a = p
    · subst ha
      rw [mset_same] at e
      cases e
      exact ⟨o, upd_same, ro⟩
    · rw [mset_ne ha] at e
      obtain ⟨u, hu, ru⟩ := t.good.real a m' e
      exact ⟨u, by rw [upd_ne ha]; exact hu, ru⟩
theorem Stp.hidden {H' F' : Hp} {M' : Mp} (t : Stp K H F M H' F' M') (h : H p = some o) (f : F p = none) (m : M p = none) : H' p = some o ∧ F' p = none ∧ M' p = none := by
  obtain ⟨k1, k2⟩ := t.keep p o h m
  refine ⟨k1, ?_, k2⟩
  cases q : F' p with
  | none => rfl
  | some u =>
    rcases t.news p u q with z | z | z
    · rw [f] at z; cases z
    · exact absurd m z
    · rw [h] at z; cases z
end

/-! ### {k: v, ..} -/
def mergeG {α : Type} (kvs more : List (Key × α)) : List (Key × α) := more.foldl (fun acc kv => putG acc kv.1 kv.2) kvs
theorem RepK.merge {K : PySem.W.Frag} {F : Hp} : ∀ {more : List (Key × V)} {ds : List (Key × D)} {vs : List (Key × V)} {es : List (Key × D)}, RepK K F more ds → RepK K F vs es → RepK K F (mergeK vs more) (mergeG es ds)
  | _, _, _, _, .nil, r => r
  | (k, v) :: more, (_, d) :: ds, vs, es, .cons a q, r => by
    show RepK K F (mergeK (putK vs k v) more) (mergeG (putG es k d) ds)
    exact RepK.merge q (RepK.put r a)
/-- the pairs of a display, from the left -/
def WDs (X : Cx) : List (Option Expr) → List Expr → En → Mp → (List (D × D) → Mp → Prop) → Prop
  | some k :: ks, v :: vs, ρ, M, Q => WE X k ρ M fun x M1 => WE X v ρ M1 fun y M2 => WDs X ks vs ρ M2 fun ps M3 => Q ((x, y) :: ps) M3
  | _, _, _, M, Q => Q [] M
def lPairs (X : Cx) : List (Option Expr) → List Expr → List (TE × TE)
  | some k :: ks, v :: vs => (lTE X k, lTE X v) :: lPairs X ks vs
  | _, _ => []
theorem lPairs_ok {X : Cx} {pos : Pos} : ∀ {ks : List (Option Expr)} {vs : List Expr}, ks.all (·.isSome) = true → ks.length = vs.length → PPs X pos ks vs (lPairs X ks vs)
  | [], [], _, _ => pps_nil
  | [], _ :: _, _, h => by simp at h
  | _ :: _, [], _, h => by simp at h
  | none :: _, _ :: _, h, _ => by simp at h
  | some k :: ks, v :: vs, h, hl => pps_cons lTE_ok lTE_ok (lPairs_ok (by simpa using h) (by simpa using hl))
inductive RepP (K : PySem.W.Frag) (F : Hp) : List (V × V) → List (D × D) → Prop
  | nil : RepP K F [] []
  | cons {v w : V} {d e : D} {vs : List (V × V)} {ds : List (D × D)} : Rep K F v d → Rep K F w e → RepP K F vs ds → RepP K F ((v, w) :: vs) ((d, e) :: ds)
theorem lPairs_run {X : Cx} : ∀ {ks : List (Option Expr)} {vs : List Expr} {σ : SS} {H F : Hp} {M : Mp} {ρ : En} {Q : List (D × D) → Mp → Prop} {R : List (V × V) → Hp → Prop}, ks.all (·.isSome) = true → ks.length = vs.length → Sim X.K H F M σ ρ → WDs X ks vs ρ M Q →
    (∀ H' F' M' ps vps, Stp X.K H F M H' F' M' → RepP X.K F' vps ps → Q ps M' → R vps H') → tPairs (lPairs X ks vs) σ H R
  | [], [], σ, H, F, M, ρ, Q, R, _, _, S, w, h => h H F M [] [] (Stp.refl S.good) .nil w
  | [], _ :: _, _, _, _, _, _, _, _, _, hl, _, _, _ => by simp at hl
  | _ :: _, [], _, _, _, _, _, _, _, _, hl, _, _, _ => by simp at hl
  | none :: _, _ :: _, _, _, _, _, _, _, _, ha, _, _, _, _ => by simp at ha
  | some k :: ks, v :: vs, σ, H, F, M, ρ, Q, R, ha, hl, S, w, h => by
    refine ⟨F, M, ρ, _, S, w, fun x H1 ⟨F1, M1, dx, t1, p1, w1⟩ => ⟨F1, M1, ρ, _, S.step t1, w1, fun y H2 ⟨F2, M2, dy, t2, p2, w2⟩ => ?_⟩⟩
    exact lPairs_run (by simpa using ha) (by simpa using hl) (S.step (t1.trans t2)) w2 fun H' F' M' ps vps t r q => h H' F' M' _ _ ((t1.trans t2).trans t) (.cons ((t2.trans t).rep p1) (t.rep p2) r) q
theorem RepP.keys {K : PySem.W.Frag} {F : Hp} : ∀ {vs : List (V × V)} {kds : List (Key × D)}, RepP K F vs (kds.map fun kv => (keyV kv.1, kv.2)) → ∃ kvs : List (Key × V), vs = kvs.map (fun kv => (kV kv.1, kv.2)) ∧ RepK K F kvs kds
  | _, [], r => by cases r; exact ⟨[], rfl, .nil⟩
  | _, kd :: kds, r => by
    cases r with
    | cons a b r =>
      obtain ⟨kvs, rfl, q⟩ := RepP.keys r
      obtain rfl := rep_key a
      exact ⟨(kd.1, _) :: kvs, rfl, .cons b q⟩
section
variable {X : Cx} {ρ : En} {M : Mp} {Q : DQ} {pos : Pos} {keys : List (Option Expr)} {values : List Expr}
theorem WE.disp (h : WDs X keys values ρ M fun ps M1 => ∃ kds : List (Key × D), ps = kds.map (fun kv => (keyV kv.1, kv.2)) ∧ kds.length ≤ 15 ∧ Q (.dic (mergeG [] kds)) M1)
    (ha : keys.all (·.isSome) = true := by rfl) (hl : keys.length = values.length := by rfl) (h0 : keys ≠ [] := by simp) (h15 : keys.length ≤ 15 := by decide) : WE X (.Dict keys values pos) ρ M Q := by
  refine .pe (pe_disp (lPairs_ok ha hl) ha hl h0 h15) fun σ H F S p hp => ?_
  have t0 := Stp.newO (o := .dK []) S.good hp
  have f0 := S.good.freeF hp
  have m0 := S.good.free hp
  refine lPairs_run ha hl (S.step t0) h fun H' F' M' ps vps t r ⟨kds, e, hz, q⟩ => ?_
  subst e
  obtain ⟨kvs, rfl, rk⟩ := r.keys
  obtain ⟨k1, k2, k3⟩ := t.hidden upd_same f0 m0
  refine ⟨k1, kvs, rfl, by rw [rk.len]; exact hz, _, M', _, (t0.trans t).owned hp k2 k3, .dic upd_same ((rk.merge .nil).mono (sub_upd k2)), q⟩
theorem WE.dispM (h : WDs X keys values ρ M fun ps M1 => ∃ kds : List (Key × D), ps = kds.map (fun kv => (keyV kv.1, kv.2)) ∧ kds.length ≤ 15 ∧ ∀ p, M p = none → M1 p = none → Q (.ref p) (mset M1 p (.dic (mergeG [] kds))))
    (ha : keys.all (·.isSome) = true := by rfl) (hl : keys.length = values.length := by rfl) (h0 : keys ≠ [] := by simp) (h15 : keys.length ≤ 15 := by decide) : WE X (.Dict keys values pos) ρ M Q := by
  refine .pe (pe_disp (lPairs_ok ha hl) ha hl h0 h15) fun σ H F S p hp => ?_
  have t0 := Stp.newO (o := .dK []) S.good hp
  have f0 := S.good.freeF hp
  have m0 := S.good.free hp
  refine lPairs_run ha hl (S.step t0) h fun H' F' M' ps vps t r ⟨kds, e, hz, q⟩ => ?_
  subst e
  obtain ⟨kvs, rfl, rk⟩ := r.keys
  obtain ⟨k1, k2, k3⟩ := t.hidden upd_same f0 m0
  exact ⟨k1, kvs, rfl, by rw [rk.len]; exact hz, _, _, _, (t0.trans t).ownedM hp k2 k3 (.dic (rk.merge .nil)), .ref p, q p m0 k3⟩
end
/-! ### dict(pairs) -/
theorem reps_pairs {K : PySem.W.Frag} {F : Hp} : ∀ {vs : List V} {kds : List (Key × D)}, Reps K F vs (kds.map fun kv => .tup [keyV kv.1, kv.2]) → ∃ (ps : List Addr) (kvs : List (Key × V)), vs = ps.map V.ref ∧ Paired (fun p kv => SqT K F p [kV kv.1, kv.2]) ps kvs ∧ RepK K F kvs kds
  | _, [], r => by cases r; exact ⟨[], [], rfl, .nil, .nil⟩
  | _, kd :: kds, r => by
    cases r with
    | cons a r =>
      obtain ⟨ps, kvs, rfl, q, rk⟩ := reps_pairs r
      cases a with
      | @tup p _ _ hs hr =>
        cases hr with
        | cons r1 hr =>
          cases hr with
          | cons r2 hr =>
            cases hr
            obtain rfl := rep_key r1
            exact ⟨p :: ps, (kd.1, _) :: kvs, rfl, .cons hs q, .cons r2 rk⟩
theorem paired_mono {α β : Type} {R R' : α → β → Prop} (h : ∀ a b, R a b → R' a b) : ∀ {as : List α} {bs : List β}, Paired R as bs → Paired R' as bs
  | _, _, .nil => .nil
  | _, _, .cons a r => .cons (h _ _ a) (paired_mono h r)
section
variable {X : Cx} {M : Mp} {Q : DQ} {kds : List (Key × D)}
theorem VC.dictP (hc : X.calm = true) (h : Q (.dic (mergeG [] kds)) M) : VC X (.type "dict") [.lst (kds.map fun kv => .tup [keyV kv.1, kv.2])] M Q :=
  .call (call_dictP hc) fun H F vs R p => by
    cases p with
    | cons q p =>
      cases p
      cases q with
      | @lst a ws _ s r =>
        obtain ⟨ps, kvs, rfl, pr, rk⟩ := reps_pairs r
        refine ⟨a, ps, kvs, rfl, .inl (R.sub.rd s), paired_mono (fun _ _ z => R.sub.sqT z) pr, fun p hp => ?_⟩
        have t := Stp.new (o := .dK (mergeK [] kvs)) R hp
        exact ⟨_, M, _, t, .dic upd_same ((rk.merge .nil).mono t.sub), h⟩
theorem VC.dictPM (hc : X.calm = true) (h : ∀ p, M p = none → Q (.ref p) (mset M p (.dic (mergeG [] kds)))) : VC X (.type "dict") [.lst (kds.map fun kv => .tup [keyV kv.1, kv.2])] M Q :=
  .call (call_dictP hc) fun H F vs R p => by
    cases p with
    | cons q p =>
      cases p
      cases q with
      | @lst a ws _ s r =>
        obtain ⟨ps, kvs, rfl, pr, rk⟩ := reps_pairs r
        refine ⟨a, ps, kvs, rfl, .inl (R.sub.rd s), paired_mono (fun _ _ z => R.sub.sqT z) pr, fun p hp => ?_⟩
        exact ⟨_, _, _, Stp.newM R hp (.dic (rk.merge .nil)), .ref p, h p (R.free hp)⟩
/-- list(d.items()) -/
theorem reps_items {K : PySem.W.Frag} {F G : Hp} (sF : Sub F G) : ∀ {ts : List Addr} {kvs : List (Key × V)} {kds : List (Key × D)}, Paired (fun (t : Addr) (q : Key × V) => G t = some (.tup [kV q.1, q.2])) ts kvs → RepK K F kvs kds → Reps K G (ts.map V.ref) (kds.map fun kv => .tup [keyV kv.1, kv.2])
  | _, _, _, .nil, .nil => .nil
  | _, _, _, .cons h p, .cons a r => .cons (.tup (.of h) (.cons (key_rep _) (.cons (a.mono sF) .nil))) (reps_items sF p r)
end
/-! ### backwards -/
section
variable {X : Cx} {ρ : En} {M : Mp} {Q : DQ} {e : Expr} {k : Nat} {p1 p2 p3 pos : Pos}
theorem WE.revL (h : WE X e ρ M fun d M1 => ∃ xs, d = .lst xs ∧ Q (.lst xs.reverse) M1) : WE X (.Subscript e (.Slice none none (some (.UnaryOp .USub (.Constant (.int 1) k p1) p2)) p3) pos) ρ M Q :=
  .pe (pe_revL lTE_ok) fun σ H F S => ⟨F, M, ρ, _, S, h, fun v H1 ⟨F1, M1, d, t, rp, xs, ed, q⟩ => by
    subst ed
    cases rp with
    | @lst a vs _ hs hr =>
      refine ⟨a, vs, rfl, .inl (t.good.sub.rd hs), fun p hp => ?_⟩
      have t2 := Stp.new (o := .lst vs.reverse) t.good hp
      exact ⟨_, M1, _, t.trans t2, .lst (.of upd_same) (t2.reps hr.reverse), q⟩⟩
/-- .. to be written -/
theorem WE.revM (h : WE X e ρ M fun d M1 => ∃ xs, d = .lst xs ∧ ∀ p, M1 p = none → Q (.ref p) (mset M1 p (.lst xs.reverse))) : WE X (.Subscript e (.Slice none none (some (.UnaryOp .USub (.Constant (.int 1) k p1) p2)) p3) pos) ρ M Q :=
  .pe (pe_revL lTE_ok) fun σ H F S => ⟨F, M, ρ, _, S, h, fun v H1 ⟨F1, M1, d, t, rp, xs, ed, q⟩ => by
    subst ed
    cases rp with
    | @lst a vs _ hs hr =>
      refine ⟨a, vs, rfl, .inl (t.good.sub.rd hs), fun p hp => ?_⟩
      exact ⟨_, _, _, t.trans (Stp.newM t.good hp (.lst hr.reverse)), .ref p, q p (t.good.free hp)⟩⟩
theorem rev_text (x : List Nat) : (⟨((Builtin.Str.strSliceIndices none none (-1) x.length).filterMap (x.toArray[·]?)).toArray⟩ : Str) = ⟨x.reverse.toArray⟩ := by
  have e : Builtin.Str.strSliceIndices none none (-1) x.length = (List.range x.length).reverse := by
    show sliceRange ((x.length : Int) - 1) (-1) (-1) = _
    rw [PySem.W.krv_sliceRange, PySem.W.krv_range]
  rw [e, List.filterMap_reverse]
  have := PySem.W.krv_all x.toArray
  rw [List.size_toArray] at this
  rw [this]
theorem WE.revS (h : WE X e ρ M fun d M1 => ∃ x, d = .str x ∧ x.length ≤ sizeLine ∧ Q (.str x.reverse) M1) : WE X (.Subscript e (.Slice none none (some (.UnaryOp .USub (.Constant (.int 1) k p1) p2)) p3) pos) ρ M Q := by
  refine ⟨fun pins s σ H F I S => ?_⟩
  refine Subscript_ (thn (h.run pins s σ H F I S) fun u s1 ⟨v, H1, F1, M1, d, I1, r1, t1, rp, x, ed, hz, q⟩ => ?_)
  subst ed
  cases rp
  obtain ⟨tk, rfl⟩ := r1
  have hst : PO X (some (.UnaryOp .USub (.Constant (.int 1) k p1) p2)) (tPart (tUn (rU fun i => .int (-i)) (tC (.int 1)))) := po_some (pe_un un_neg pe_int)
  refine wpAny_Slice (thn (po_none.run pins s1 σ H1 (fun o H2 => o = none ∧ H2 = H1) I1 ⟨rfl, rfl⟩) fun vl s2 ⟨l, H2, I2, pl, el, e2⟩ => ?_)
  subst el e2
  refine thn (po_none.run pins s2 σ H2 (fun o H3 => o = none ∧ H3 = H2) I2 ⟨rfl, rfl⟩) fun vu s3 ⟨w, H3, I3, pu, eu, e3⟩ => ?_
  subst eu e3
  refine thn (hst.run pins s3 σ H3 (fun o H4 => o = some (-1) ∧ H4 = H3) I3 ⟨1, rfl, -1, rfl, rfl, rfl⟩) fun vs s4 ⟨o, H4, I4, ps, eo, e4⟩ => ?_
  subst eo e4
  obtain ⟨l, rfl, el⟩ := IsPart.raw pl
  obtain ⟨w, rfl, ew⟩ := IsPart.raw pu
  obtain ⟨st, rfl, est⟩ := IsPart.raw ps
  have I5 : Inv X pins σ H4 { s4 with heap := s4.heap.push { cls := .type "slice", data := .fields #[partValue l, partValue w, partValue st] } } := I4.kept (t' := s4.toks) fun b ob q => Heap.get?_push_of_some _ q
  cases l with
  | some _ => cases el
  | none =>
    cases w with
    | some _ => cases ew
    | none =>
      show wpAny (model X.prog X.w) X.A (subscriptTail e (.Slice none none (some (.UnaryOp .USub (.Constant (.int 1) k p1) p2)) p3) (.str ⟨x.toArray⟩ tk) (.ref s4.heap.objs.size)) (TEnd X pins σ H F M Q) X.xe { s4 with heap := s4.heap.push { cls := .type "slice", data := .fields #[partValue none, partValue none, partValue st] } }
      have e1 : (st.map (·.1)).getD 1 = -1 := by rw [est]; rfl
      refine tail_any (ops := [.str ⟨x.toArray⟩ tk, .ref s4.heap.objs.size]) (typeIs_str _ _ _) PySem.F.slot_str_getitem.lookup ?_ (by with_unfolding_all rfl)
      refine wpAny_getItem_str_slice (l := none) (u := none) (st := st) ⟨_, Heap.get?_push_size _ rfl, rfl, rfl⟩ (by rw [e1]; rfl) ?_
      have hs : sliceMade ⟨x.toArray⟩ tk none none st = .str ⟨x.reverse.toArray⟩ := by
        unfold sliceMade slicePicked
        rw [e1]
        have e3 : ((-1 : Int) == 1) = false := by decide
        rw [e3, Bool.false_and, if_neg Bool.false_ne_true]
        have := rev_text x
        rw [← this]
        rfl
      rw [hs]
      exact ⟨by show x.reverse.toArray.size ≤ sizeLine; simpa using hz, .str ⟨x.reverse.toArray⟩, H4, F1, M1, _, I5.tok _, ⟨_, rfl⟩, t1, .str _, q⟩
end
/-! ### [x] * k -/
section
variable {X : Cx} {M : Mp} {Q : DQ}
theorem VO.repM {a : Addr} {xs : List D} {k : Int} (hm : M a = some (.lst xs)) (h1 : -(2 ^ 63) ≤ k) (h2 : k < 2 ^ 63) (hz : xs.length * k.toNat ≤ sizeLine) (h : Q (.lst (List.replicate k.toNat xs).flatten) (mdel M a)) : VO X (binaryOp .Mult) (.ref a) (.int k) M Q :=
  .op op_rep fun H F v1 v2 R r1 r2 => by
    cases r1
    cases r2
    obtain ⟨vs, hv, rv⟩ := R.lst hm
    refine ⟨a, k, vs, rfl, rfl, hv, h1, h2, by rw [rv.length]; exact hz, fun p hp => ?_⟩
    have t := Stp.freeze R hm hv
    have t2 := Stp.new (o := .lst (List.replicate k.toNat vs).flatten) t.good hp
    refine ⟨_, _, _, t.trans t2, .lst (.of upd_same) ?_, h⟩
    have key : ∀ n : Nat, Reps X.K F (List.replicate n vs).flatten (List.replicate n xs).flatten := fun n => by
      induction n with
      | zero => exact .nil
      | succ n ih => rw [List.replicate_succ, List.replicate_succ, List.flatten_cons, List.flatten_cons]; exact rv.append ih
    exact (t.trans t2).reps (key _)
/-! ### s.index(c) -/
theorem VM.sindex {x y : List Nat} {i : Nat} {rest : List Nat} (ho : Builtin.Str.occurrences ⟨x.toArray⟩ ⟨y.toArray⟩ 0 x.length 1 = i :: rest) (h : Q (.int (i : Nat)) M) : VM X "str.index" (.str x) [.str y] M Q :=
  .mt mt_sindex fun H F v vs R p1 p2 => by
    cases p1
    cases p2 with
    | cons q p2 =>
      cases p2
      cases q
      exact ⟨_, _, i, rest, rfl, rfl, ho, F, M, _, Stp.refl R, .int _, h⟩
/-! ### isinstance(x, C) -/
/-- what an own class must say, for isinstance -/
structure IsC (K : PySem.W.Frag) (C : Addr) : Prop where
  cls : Cls K C
  ha : PySem.W.findIn K (.ref C) "__class__" = some (some (.builtin "object.__class__"))
  hn : PySem.W.specialIn K (.builtin "object.__class__") "__get__" = some (some (.builtin "getset_descriptor.__get__"))
  ht : PySem.W.takesIn K (.builtin "object.__class__") = some true
  hm : PySem.W.mroIn K C (.type "object") = some true
theorem VC.isC {C L : Addr} {fs : List (Str × D)} {b : Bool} (T : IsC X.K C) (hb : PySem.W.kitOne X.K (.ref C) (.ref L) = some b) (h : Q (.bl b) M) : VC X (.builtin "isinstance") [.ins C fs, .ref L] M Q :=
  .call call_isi fun H F vs R p => by
    cases p with
    | cons q p =>
      cases p with
      | cons q2 p =>
        cases p
        cases q2
        cases q with
        | ins hF rF => exact ⟨_, _, .ref C, .ref L, b, rfl, .own L, .base (.ins (R.sub _ _ hF) T.cls T.ha T.hn T.ht T.hm), hb, F, M, _, Stp.refl R, .bl b, h⟩
end
/-! ### a, b = l -/
section
variable {X : Cx} {ρ : En} {M : Mp} {R : En → Mp → Prop} {pos : Pos}
def lTGs (X : Cx) (ts : List Expr) : TGs := fun vs σ H Q => ∃ F M ρ xs R, Sim X.K H F M σ ρ ∧ Reps X.K F vs xs ∧ WGs X ts xs ρ M R ∧ ∀ σ' H', NEnd X H F M R σ' H' → Q σ' H'
theorem WG.unl {es : List Expr} {k : Nat} {xs : List D} (hc : X.calm = true) (h : WGs X es xs ρ M R) (hl : xs.length = (assignEach es X.env).length := by rfl) (hst : (assignEach es X.env).findIdx? (·.1) = none := by rfl) : WG X (.Tuple es k pos) (.lst xs) ρ M R := by
  refine ⟨fun pins s σ H F v u I S r rp => ?_⟩
  cases rp with
  | lst hq hr =>
    refine thn ((pg_lst (n := xs.length) (t := lTGs X es) hc ⟨fun pins s σ H vs us Q I r ⟨F, M, ρ, xs, R, S, rp, h, hq⟩ => ?_⟩ hl.symm hst).run pins s σ H _ u _ I r ⟨_, _, rfl, .inl (S.good.sub.rd hq), hr.length, F, M, ρ, xs, R, S, hr, h, fun _ _ q => q⟩) fun _ s' ⟨σ', H', I', q⟩ => ⟨σ', H', I', q⟩
    exact thn (h.run pins s σ H F vs us I S r rp) fun _ s' ⟨σ', H', I', q⟩ => ⟨σ', H', I', hq _ _ q⟩
end
/-! ### a module's dict of texts -/
section
variable {X : Cx} {M : Mp} {Q : DQ}
theorem VO.inKD {d : Addr} {es : Array DictEntry} {n : Nat} {x : List Nat} {r : Option Value} (T : KDict X.K X.w d es n) (hr : PySem.W.nsIn X.K d ⟨x.toArray⟩ = some r) (h : Q (.bl r.isSome) M) : VO X (compareOp .In) (.str x) (.ref d) M Q :=
  .op (op_in_kd T) fun H F v1 v2 R r1 r2 => by
    cases r1
    cases r2
    exact ⟨_, r, rfl, rfl, hr, F, M, _, Stp.refl R, .bl _, h⟩
end
end TL
end
section
set_option maxRecDepth 100000
set_option maxHeartbeats 2000000
/-! TQ: list(d.items()), dict comprehensions. -/
namespace TL
open PySem PySem.Spec PyProof.Rows L2
section
variable {K : PySem.W.Frag} {H F H' : Hp} {M : Mp}
/-- all that is new is frozen -/
def grow (H H' F : Hp) : Hp := fun b => match H b with
  | none => H' b
  | some _ => F b
theorem grow_old {b : Addr} {o : HO} (h : H b = some o) : grow H H' F b = F b := by unfold grow; rw [h]
theorem grow_new {b : Addr} (h : H b = none) : grow H H' F b = H' b := by unfold grow; rw [h]
theorem Stp.grow (r : Good K H F M) (hk : ∀ b o, H b = some o → H' b = some o) : Stp K H F M H' (TL.grow H H' F) M := by
  have sF : Sub F (TL.grow H H' F) := fun b o e => by rw [grow_old (r.sub b o e)]; exact e
  refine ⟨fun b o e m => ⟨hk b o e, m⟩, sF, fun b o e => ?_, ⟨fun b o e => ?_, fun b m e => ?_, fun b m e => ?_⟩⟩
  · cases q : H b with
    | none => exact .inr (.inr rfl)
    | some u => rw [grow_old q] at e; exact .inl e
  · cases q : H b with
    | none => rw [grow_new q] at e; exact e
    | some u => rw [grow_old q] at e; exact hk b o (r.sub b o e)
  · obtain ⟨o, ho, _⟩ := r.real b m e
    rw [grow_old ho]
    exact r.dis b m e
  · obtain ⟨o, ho, ro⟩ := r.real b m e
    exact ⟨o, hk b o ho, ro.mono sF⟩
end
section
variable {X : Cx} {ρ : En} {M : Mp} {Q : DQ} {e : Expr} {p apos cpos pos : Pos}
theorem WE.listItems (hc : X.calm = true) (hm : X.mg "list" = none) (h : WE X e ρ M fun d M1 => ∃ kds, d = .dic kds ∧ Q (.lst (kds.map fun kv => .tup [keyV kv.1, kv.2])) M1) (hg : Gl X "list" := by rfl)
    (hbase : attributeBase e "items" X.env (eval e X.env) = eval e X.env := by rfl) (hline : (apos.endLine == cpos.line) = true := by rfl)
    (hs : starEach [.Call (.Attribute e "items" apos) [] [] cpos] X.env = (false, eval (.Call (.Attribute e "items" apos) [] [] cpos) X.env) :: starEach [] X.env := by rfl) :
    WE X (.Call (.Name "list" p) [.Call (.Attribute e "items" apos) [] [] cpos] [] pos) ρ M Q :=
  .pe (LiI.pe_listItems hc lTE_ok hg hm (by rfl) hbase hline hs) fun σ H F S => ⟨F, M, ρ, _, S, h, fun v H1 ⟨F1, M1, d, t, rp, kds, ed, q⟩ => by
    subst ed
    cases rp with
    | @dic a kvs _ hF rK =>
      refine ⟨a, kvs, rfl, t.good.sub _ _ hF, fun H' p ts hk hp hts hpn hl hpr => ?_⟩
      have t2 := Stp.grow t.good hk
      refine ⟨_, M1, _, t.trans t2, .lst (.of (by rw [grow_new hp]; exact hl)) (reps_items t2.sub ?_ rK), q⟩
      have key : ∀ {ts : List Addr} {kvs : List (Key × V)}, (∀ t ∈ ts, H1 t = none) → Paired (fun (t : Addr) (q : Key × V) => H' t = some (.tup [kV q.1, q.2])) ts kvs → Paired (fun (t : Addr) (q : Key × V) => TL.grow H1 H' F1 t = some (.tup [kV q.1, q.2])) ts kvs := by
        intro ts kvs hn pr
        induction pr with
        | nil => exact .nil
        | cons a _ ih => exact .cons (by rw [grow_new (hn _ (List.mem_cons_self ..))]; exact a) (ih fun t ht => hn t (List.mem_cons_of_mem _ ht))
      exact key hts hpr⟩
end
/-! ### dict comprehensions -/
section
variable {X : Cx} {scope : Scope} {tg kx vx iter : Expr} {ifs : List Expr} {ρ : En} {M : Mp} {Q : DQ} {own : List (Str × Nat)} {pos : Pos}
def DCompT (X : Cx) (scope : Scope) (kx vx : Expr) (ifs : List Expr) (bind : D → Option En) (Q : List (Key × D) → Mp → Prop) : List D → List (Key × D) → Mp → Prop
  | [], acc, M => Q acc M
  | x :: xs, acc, M => acc.length < sizeLine ∧ ∃ ρ1 b M1, bind x = some ρ1 ∧ (∀ s H C cl fp, WTs (Blk X scope s H C cl fp) ifs ρ1 M fun b' M' => b' = b ∧ M' = M1) ∧
    (b = false → DCompT X scope kx vx ifs bind Q xs acc M1) ∧ (b = true → ∃ k M2 y M3, (∀ s H C cl fp, WE (Blk X scope s H C cl fp) kx ρ1 M1 fun y' M' => y' = keyV k ∧ M' = M2) ∧ (∀ s H C cl fp, WE (Blk X scope s H C cl fp) vx ρ1 M2 fun y' M' => y' = y ∧ M' = M3) ∧
      DCompT X scope kx vx ifs bind Q xs (putG acc k y) M3)
/-- the readings of a dict comprehension -/
theorem dc_reads {g : TG} {bind : D → Option En} (hb : BindOk X.K g (own.map (·.2)) ρ bind) (h : WI X tg iter ρ M fun xs M1 => DCompT X scope kx vx ifs bind (fun kds M2 => Q (.dic kds) M2) xs [] M1) :
    ∃ wi tt tk tv, PI X tg iter wi ∧ (∀ (s : Shared) (H : Hp) (C : Addr) (cl : List (Str × Addr)) (fp : List Addr), PTs (Blk X scope s H C cl fp) ifs tt) ∧ (∀ (s : Shared) (H : Hp) (C : Addr) (cl : List (Str × Addr)) (fp : List Addr), PE (Blk X scope s H C cl fp) kx tk) ∧ (∀ (s : Shared) (H : Hp) (C : Addr) (cl : List (Str × Addr)) (fp : List Addr), PE (Blk X scope s H C cl fp) vx tv) ∧
      ∀ (σ0 : SS) (H0 F0 : Hp) (R : VK), Sim X.K H0 F0 M σ0 ρ → (∀ v H' F' M' d, Stp X.K H0 F0 M H' F' M' → Rep X.K F' v d → Q d M' → R v H') → tDc wi g tt tk tv (own.map (·.2)) σ0 H0 R := by
  obtain ⟨wi, hi, h⟩ := h
  let tt : TT := fun σ H R => ∃ F M ρ b M1, Sim X.K H F M σ ρ ∧ (∀ s H C cl fp, WTs (Blk X scope s H C cl fp) ifs ρ M fun b' M' => b' = b ∧ M' = M1) ∧ ∀ H' F', Stp X.K H F M H' F' M1 → R b H'
  let te : Expr → TE := fun ex σ H R => ∃ F M ρ y M2, Sim X.K H F M σ ρ ∧ (∀ s H C cl fp, WE (Blk X scope s H C cl fp) ex ρ M fun y' M' => y' = y ∧ M' = M2) ∧ ∀ v H' F', Stp X.K H F M H' F' M2 → Rep X.K F' v y → R v H'
  have pt : ∀ (s : Shared) (H : Hp) (C : Addr) (cl : List (Str × Addr)) (fp : List Addr), PTs (Blk X scope s H C cl fp) ifs tt := fun s H C cl fp => ⟨fun pins s' σ H' R I ⟨F, M, ρ, b, M1, S, w, q⟩ =>
    thn ((w s H C cl fp).run pins s' σ H' F I S) fun b' s2 ⟨H2, F2, M2, I2, t2, e1, e2⟩ => by subst e1 e2; exact ⟨H2, I2, q H2 F2 t2⟩⟩
  have pe : ∀ (ex : Expr) (s : Shared) (H : Hp) (C : Addr) (cl : List (Str × Addr)) (fp : List Addr), PE (Blk X scope s H C cl fp) ex (te ex) := fun ex s H C cl fp => ⟨fun pins s' σ H' R I ⟨F, M, ρ, y, M2, S, w, q⟩ =>
    thn ((w s H C cl fp).run pins s' σ H' F I S) fun u s2 ⟨v, H2, F2, M3, d, I2, r2, t2, p2, e1, e2⟩ => by subst e1 e2; exact ⟨v, H2, I2, r2, q v H2 F2 t2 p2⟩⟩
  refine ⟨wi, tt, te kx, te vx, hi, pt, pe kx, pe vx, fun σ0 H0 F0 R0 S0 hR0 => ?_⟩
  refine h σ0 H0 F0 S0 _ fun J H1 F1 M1 xs t1 wk ct D hD => ?_
  have hDF : F1 D = none := t1.good.freeF hD
  have hDM : M1 D = none := t1.good.free hD
  let St : Nat → Hp → Prop := fun i H => ∃ F M' acc vs, Stp X.K H1 F1 M1 H F M' ∧ F D = none ∧ M' D = none ∧ H D = some (.dK vs) ∧ RepK X.K F vs acc ∧ DCompT X scope kx vx ifs bind (fun kds M2 => Q (.dic kds) M2) (xs.drop i) acc M'
  have other : ∀ {H F : Hp} {M' : Mp} {o : HO}, Stp X.K H1 F1 M1 H F M' → F D = none → M' D = none → Stp X.K H1 F1 M1 (upd H D o) F M' := fun {H F M' o} t f m =>
    ⟨fun b u e n => by
      have hb : b ≠ D := ne_of_none e hD
      rw [upd_ne hb]; exact t.keep b u e n, t.sub, t.news, t.good.other f m⟩
  refine ⟨fun i m H => m = xs.length - i ∧ i ≤ xs.length ∧ St i H, ⟨xs.length, by simp, Nat.zero_le _, F1, M1, [], [], other (Stp.refl t1.good) hDF hDM, hDF, hDM, upd_same, .nil, ct⟩, ?_⟩
  rintro i m H ⟨rfl, hi, F, M', acc, vs, t2, f2, m2, hl, hr, c2⟩
  by_cases hlt : i < xs.length
  · obtain ⟨hgo, hy⟩ := (wk i H F M' t2).1 hlt
    refine .inr ⟨hgo, St (i + 1), fun H' p => ⟨_, by omega, rfl, hlt, p⟩, fun x H' y => ?_⟩
    obtain ⟨F3, d, hd, t3, rp⟩ := hy x H' y
    have ed : xs.drop i = d :: xs.drop (i + 1) := by
      rw [List.drop_eq_getElem_cons hlt]
      have := List.getElem?_eq_getElem hlt
      rw [hd] at this
      rw [Option.some.inj this]
    rw [ed] at c2
    obtain ⟨hz, ρ1, b, M4, eb, w4, q4, q5⟩ := c2
    obtain ⟨hl3, f3, m3⟩ := t3.hidden hl f2 m2
    have S3 := ((S0.step t1).step (t2.trans t3)).wipe (own.map (·.2))
    refine hb x d σ0 H' F3 M' ρ1 _ S3 rp eb fun σ4 S4 ew => ⟨ew, F3, M', ρ1, b, M4, S4, w4, fun H5 F5 t5 => ?_⟩
    obtain ⟨hl5, f5, m5⟩ := t5.hidden hl3 f3 m3
    cases b with
    | false =>
      rw [if_neg Bool.false_ne_true]
      exact ⟨F5, M4, acc, vs, (t2.trans t3).trans t5, f5, m5, hl5, hr.mono (t3.trans t5).sub, q4 rfl⟩
    | true =>
      rw [if_pos rfl]
      obtain ⟨k, M6, y, M7, w6, w7, c6⟩ := q5 rfl
      refine ⟨F5, M4, ρ1, keyV k, M6, S4.step t5, w6, fun v H7 F7 t7 r7 => ?_⟩
      obtain ⟨hl7, f7, m7⟩ := t7.hidden hl5 f5 m5
      refine ⟨F7, M6, ρ1, y, M7, (S4.step t5).step t7, w7, fun v2 H8 F8 t8 r8 => ?_⟩
      obtain ⟨hl8, f8, m8⟩ := t8.hidden hl7 f7 m7
      obtain rfl := rep_key r7
      have rk := hr.mono (((t3.trans t5).trans t7).trans t8).sub
      refine ⟨vs, k, rfl, hl8, by rw [hr.len]; exact hz, F8, M7, putG acc k y, putK vs k v2, other ((((t2.trans t3).trans t5).trans t7).trans t8) f8 m8, f8, m8, upd_same, rk.put r8, c6⟩
  · have e : i = xs.length := by omega
    subst e
    rw [List.drop_length] at c2
    have eH : upd H D (.dK vs) = H := by
      funext b
      by_cases hb : b = D
      · subst hb; rw [upd_same, hl]
      · rw [upd_ne hb]
    have t3 := t2.owned (o := .dK vs) hD f2 m2
    rw [eH] at t3
    exact .inl ⟨(wk _ H F M' t2).2 rfl, hR0 _ _ (upd F D (.dK vs)) M' _ (t1.trans t3) (.dic upd_same (hr.mono (sub_upd f2))) c2⟩
theorem WE.dc {g : TG} {bind : D → Option En} (hc : X.calm = true) (hN : X.N.Nodup) (ok : BlkOk X.N X.env.scope scope own) (hb : BindOk X.K g (own.map (·.2)) ρ bind)
    (hg : ∀ (s : Shared) (H : Hp) (C : Addr) (cl : List (Str × Addr)) (fp : List Addr), PG (Blk X scope s H C cl fp) tg g)
    (h : WI X tg iter ρ M fun xs M1 => DCompT X scope kx vx ifs bind (fun kds M2 => Q (.dic kds) M2) xs [] M1) (hs : ∀ x, foldedSetIterable iter X.env x = pure x := by intro _; rfl) : WE X (.DictComp kx vx [⟨tg, iter, ifs, 0⟩] scope pos) ρ M Q := by
  obtain ⟨wi, tt, tk, tv, hi, pt, pk, pv, q⟩ := dc_reads hb h
  exact .pe (pe_dc hc hN hi ok hg pt pk pv hs) fun σ H F S => q σ H F _ S fun v H' F' M' d t r q => ⟨F', M', d, t, r, q⟩
/-- n = {..} -/
theorem WS.setDc {g : TG} {bind : D → Option En} {E : TEs} {n : Str} {pos' spos : Pos} (i : Nat) (hc : X.calm = true) (hN : X.N.Nodup) (ok : BlkOk X.N X.env.scope scope own) (hb : BindOk X.K g (own.map (·.2)) ρ bind)
    (hg : ∀ (s : Shared) (H : Hp) (C : Addr) (cl : List (Str × Addr)) (fp : List Addr), PG (Blk X scope s H C cl fp) tg g)
    (h : WI X tg iter ρ M fun xs M1 => DCompT X scope kx vx ifs bind (fun kds M2 => E.nx (ρ.set i (some (.dic kds))) M2) xs [] M1) (hi : X.N[i]? = some n := by rfl) (hl : X.env.scope.names.lookup n = some .local := by rfl)
    (hsw : swapsWith (.DictComp kx vx [⟨tg, iter, ifs, 0⟩] scope pos) (some (.Name n pos')) spos.line X.env = pure true := by rfl) (hs : ∀ x, foldedSetIterable iter X.env x = pure x := by intro _; rfl) :
    WS X (.Assign [.Name n pos'] (.DictComp kx vx [⟨tg, iter, ifs, 0⟩] scope pos) spos) ρ M E := by
  obtain ⟨wi, tt, tk, tv, hi', pt, pk, pv, q⟩ := dc_reads (Q := fun d M2 => E.nx (ρ.set i (some d)) M2) hb h
  refine ⟨fun pins s σ H F I S => ?_⟩
  rw [exec_Assign_Name_used _ _ _ _ hsw]
  refine wpAny_bind (wpAny_standAt (wpAny_bind ?_))
  show wpAny _ X.A (do let _ ← comprehension (.DictComp kx vx [⟨tg, iter, ifs, 0⟩] scope pos) scope X.env (firstIterPos [⟨tg, iter, ifs, 0⟩] pos) newDict false (eval iter X.env) (some (assign (.Name n pos') X.env))) _ _ s
  have h : tDc wi g tt tk tv (own.map (·.2)) σ H (fun x H1 => (E.ends X H F M).nx (σ.set i (some x)) H1) := q σ H F _ S fun v H' F' M' d t r q => ⟨F', M', _, t, (S.step t).set i r, q⟩
  refine wpAny_bind (thn (dc_core (Qf := fun _ s' => SP X pins (E.ends X H F M) .next s') hc hN I hi' ok hg pt pk pv hs h fun L C s' m H' I' q hn f => ?_) fun _ s' hq => wpAny_pure (wpAny_pure hq))
  show wpAny _ _ (assign (.Name n pos') X.env (.ref L)) _ _ _
  refine wpAny_assign_Name (store_ok2 (v := V.ref L) I' hN hi (.inl hl) rfl (fun s2 I2 ⟨a, sb, ha⟩ => ?_) (.inr hl))
  obtain ⟨f0, f1, f2, f3, f4, f5⟩ := f
  have haC : C ≠ a := by
    rcases ha with z | z
    · rw [z]; exact f1
    · exact fun e => f4 n a z e.symm
  refine ⟨m, hn.sameBut sb haC, fun h3 sb3 => ?_⟩
  exact ⟨_, H', I2.turned (t' := s2.toks) (fun b o hb e => (sb3.2 b hb).trans e) f0 f1 f3 f4 f5, q⟩
end
end TL
end
section
set_option maxRecDepth 100000
set_option maxHeartbeats 2000000
/-! TR: repr of data. -/
namespace TL
open PySem PySem.Spec PyProof.Rows L2
mutual
/-- what repr reads -/
def rpy : D → PyData
  | .non => .none
  | .bl b => .bool b
  | .int i => .int i
  | .str x => .str ⟨x.toArray⟩
  | .tup xs => .tuple (rpys xs)
  | .lst xs => .list (rpys xs)
  | .dic _ => .dict []
  | .ty _ | .ref _ | .ins _ _ | .xn _ _ _ | .tun _ => .none
def rpys : List D → List PyData
  | [] => []
  | d :: ds => rpy d :: rpys ds
end
mutual
/-- data that repr shows: ints below 2 ** 1900, empty dicts -/
def isR : D → Bool
  | .non | .bl _ | .str _ => true
  | .int i => decide (i.natAbs.log2 < 1920)
  | .tup xs | .lst xs => areR xs
  | .dic kvs => kvs.isEmpty
  | .ty _ | .ref _ | .ins _ _ | .xn _ _ _ | .tun _ => false
def areR : List D → Bool
  | [] => true
  | d :: ds => isR d && areR ds
end
mutual
theorem isR_show : ∀ {d : D}, isR d = true → (rpy d).showable = true
  | .non, _ => by simp [rpy, PyData.showable]
  | .bl _, _ => by simp [rpy, PyData.showable]
  | .str _, _ => by simp [rpy, PyData.showable]
  | .int i, h => by simpa [rpy, PyData.showable, isR] using h
  | .tup xs, h => by
    simp only [rpy, PyData.showable]
    exact areR_show (by simpa [isR] using h)
  | .lst xs, h => by
    simp only [rpy, PyData.showable]
    exact areR_show (by simpa [isR] using h)
  | .dic kvs, _ => by simp [rpy, PyData.showable, PyData.showableKv]
theorem areR_show : ∀ {ds : List D}, areR ds = true → PyData.showableAll (rpys ds) = true
  | [], _ => by simp [rpys, PyData.showableAll]
  | d :: ds, h => by
    simp only [areR, Bool.and_eq_true] at h
    simp only [rpys, PyData.showableAll, Bool.and_eq_true]
    exact ⟨isR_show h.1, areR_show h.2⟩
end
section
variable {X : Cx} {pins : Pins} {σ : SS} {H F : Hp} {M : Mp} {s : Shared}
theorem not_sys (I : Inv X pins σ H s) (hs : ∃ o, X.base.get? sysModules = some o) {a : Addr} {o : HO} (h : H a = some o) : a ≠ sysModules := by
  rintro rfl
  obtain ⟨u, hu⟩ := hs
  have := (I.bs _ _ hu).2
  rw [h] at this
  cases this
mutual
theorem Rep.reads (I : Inv X pins σ H s) (R : Good X.K H F M) (hs : ∃ o, X.base.get? sysModules = some o) : ∀ {d : D} {v : V} {u : Value}, Rep X.K F v d → isR d = true → RelV v u → ∃ as, Reads s.heap u (rpy d) as ∧ sysModules ∉ as
  | .non, _, u, p, _, r => by
    cases p
    obtain rfl : u = Value.none := r
    exact ⟨[], by simp only [rpy]; exact .none, by simp⟩
  | .bl b, _, u, p, _, r => by
    cases p
    obtain rfl : u = Value.bool b := r
    exact ⟨[], by simp only [rpy]; exact .bool b, by simp⟩
  | .int i, _, u, p, _, r => by
    cases p
    obtain ⟨t, rfl⟩ := r
    exact ⟨[], by simp only [rpy]; exact .int i t, by simp⟩
  | .str x, _, u, p, _, r => by
    cases p
    obtain ⟨t, rfl⟩ := r
    exact ⟨[], by simp only [rpy]; exact .str _ t, by simp⟩
  | .tup xs, _, u, p, h, r => by
    cases p with
    | tup hq hr =>
      cases r
      obtain ⟨its, w, ⟨o, ho, hc, n, hd⟩, hz⟩ := I.tuple (R.sub.sqT hq)
      obtain ⟨as, ra, na⟩ := Reps.reads I R hs hr (by simpa [isR] using h) w
      exact ⟨as, by simp only [rpy]; exact .tuple ho hc hd (by simpa using ra), na⟩
  | .lst xs, _, u, p, h, r => by
    cases p with
    | lst hq hr =>
      cases r
      obtain ⟨z1, i1, n1, w1, e1⟩ := (R.sub.rd hq).ok I.hok
      obtain ⟨as, ra, na⟩ := Reps.reads I R hs hr (by simpa [isR] using h) w1
      refine ⟨_ :: as, by simp only [rpy]; exact .list e1 rfl rfl (by simpa using ra), ?_⟩
      rw [List.mem_cons, not_or]
      refine ⟨fun e => ?_, na⟩
      rcases R.sub.rd hq with q | ⟨o, q⟩
      · exact not_sys I hs q e.symm
      · exact not_sys I hs q e.symm
  | .dic kvs, _, u, p, h, r => by
    cases p with
    | dic hF rK =>
      cases r
      have e : kvs = [] := by simpa [isR] using h
      subst e
      cases rK
      obtain ⟨z, hd, vs, rel, dd⟩ := dk_of I.hok (R.sub _ _ hF)
      cases rel
      obtain ⟨ep, hat⟩ := dd.dictAt
      obtain ⟨od, es, hod, hcd, hdd, _, hpr, _⟩ := id hat
      have e0 : es.toList = [] := by
        have := hpr.length
        simpa using this
      refine ⟨_, by
        simp only [rpy]
        exact .dict hod hcd.1 hdd (as := []) (bs := []) (by rw [e0]; exact .nil) (by rw [e0]; exact .nil), ?_⟩
      simp only [List.append_nil, List.mem_singleton]
      intro e
      rw [← e] at hd
      simp at hd
theorem Reps.reads (I : Inv X pins σ H s) (R : Good X.K H F M) (hs : ∃ o, X.base.get? sysModules = some o) : ∀ {ds : List D} {vs : List V} {us : List Value}, Reps X.K F vs ds → areR ds = true → Vals vs us → ∃ as, ReadsAll s.heap us (rpys ds) as ∧ sysModules ∉ as
  | [], _, us, p, _, r => by
    cases p
    cases r
    exact ⟨[], by simp only [rpys]; exact .nil, by simp⟩
  | d :: ds, _, us, p, h, r => by
    cases p with
    | cons p1 p2 =>
      cases r with
      | cons r1 r2 =>
        simp only [areR, Bool.and_eq_true] at h
        obtain ⟨a1, q1, n1⟩ := Rep.reads I R hs p1 h.1 r1
        obtain ⟨a2, q2, n2⟩ := Reps.reads I R hs p2 h.2 r2
        exact ⟨a1 ++ a2, by simp only [rpys]; exact .cons q1 q2, by simp [n1, n2]⟩
end
end
/-- what repr shows -/
def shN (d : D) : List Nat := (rpy d).shown.cps.toList
section
variable {X : Cx} {M : Mp} {Q : DQ} {d : D} {k : Nat}
theorem shN_rep {K : PySem.W.Frag} {F : Hp} : Rep K F (.str (rpy d).shown) (.str (shN d)) := by
  have e : (rpy d).shown = ⟨(shN d).toArray⟩ := by
    unfold shN
    rw [Array.toArray_toList]
  rw [e]
  exact .str _
theorem VC.repr (lo : Lo X k) (hs : ∃ o, X.base.get? sysModules = some o) (hd : isR d = true) (hz : (shN d).length ≤ sizeLine) (hp : (rpy d).depth ≤ 60) (h : Q (.str (shN d)) M) : VC X (.builtin "repr") [d] M Q := by
  intro pins s σ H F vs us I R r1 p1
  have hz' : (rpy d).shown.length ≤ sizeLine := by
    have : (shN d).length = (rpy d).shown.length := by simp [shN, Str.length]
    omega
  cases p1 with
  | cons p1 p2 =>
    cases p2
    cases r1 with
    | @cons v u _ _ r1 r2 =>
      cases r2
      have end_ : ∀ h' t tk, (∀ b o, s.heap.get? b = some o → h'.get? b = some o) → TEnd X pins σ H F M Q (.str (rpy d).shown t) { s with heap := h', toks := tk } := fun h' t tk hk =>
        ⟨.str (rpy d).shown, H, F, M, _, I.kept (t' := tk) hk, ⟨t, rfl⟩, Stp.refl R, shN_rep, h⟩
      obtain ⟨as, rd, na⟩ := Rep.reads I R hs p1 hd r1
      have sh := isR_show hd
      have big : ∀ a, u = .ref a → wpAny (model X.prog X.w) X.A (PySem.call (.builtin "repr") [u]) (TEnd X pins σ H F M Q) X.xe s := fun a e => by
        subst e
        exact repr_of_reads' rd sh (fun _ => na) lo.room.grd (by have := lo.u64; omega) (fun _ _ e => e) (fun h' t tk hk => end_ h' t tk hk) hz'
      cases p1 with
      | non =>
        obtain rfl : u = Value.none := r1
        exact PySem.P.repr_of_none (end_ s.heap _ _ fun _ _ e => e)
      | bl b =>
        obtain rfl : u = Value.bool b := r1
        simp only [rpy, PyData.shown] at end_
        exact PySem.P.repr_of_bool (end_ s.heap _ _ fun _ _ e => e)
      | int i =>
        obtain ⟨t', rfl⟩ := r1
        simp only [rpy, PyData.shown] at end_
        exact PySem.P.repr_of_int (by simpa [isR] using hd) (end_ s.heap _ _ fun _ _ e => e)
      | str x =>
        obtain ⟨t', rfl⟩ := r1
        simp only [rpy, PyData.shown] at end_ hz'
        exact PySem.P.repr_of_str (end_ s.heap _ _ fun _ _ e => e) hz'
      | tup _ _ => exact big _ r1
      | lst _ _ => exact big _ r1
      | dic _ _ => exact big _ r1
      | ty _ => simp [isR] at hd
      | ref _ => simp [isR] at hd
      | ins _ _ => simp [isR] at hd
      | xn _ _ => simp [isR] at hd
      | tun _ _ _ _ => simp [isR] at hd
end
end TL
end
section
set_option maxRecDepth 100000
set_option maxHeartbeats 2000000
/-! TW: the head's facts for exceptions and more; the law's end over tree values. -/
namespace TL
open PySem PySem.Spec PyProof.Rows L2
open He (ga ma fAd frG refsO)

/-! ### facts -/
abbrev FnY : Type := Option (Str × Str × Arguments × FuncBody × Scope × Addr × List Str × Addr)
def fnY (K : PySem.W.Frag) (p : Str × Option Str) : FnY := match K.lookup (fAd K p) with
  | some ⟨_, _, .func fd, _⟩ => some (fd.name, fd.qualname, fd.params, fd.body, fd.scope, fd.globals, fd.closure.map (·.1), fd.builtins)
  | _ => none
/-- an exception class's __init__ -/
structure BadD where
  cls : Str
  fl : Str
  qual : Str
  params : Arguments
  body : List Stmt
  scope : Scope
def BadD.val (d : BadD) : FnY := some ("__init__", d.qual, d.params, .stmts d.body, d.scope, mainGlobals, ["__class__"], builtinsNs)
def optB {α : Type} [DecidableEq α] (a b : Option α) : Bool := decide (a = b)
def cellB (K : PySem.W.Frag) (cl : List (Str × Addr)) (C : Addr) : Bool := match cl with
  | [(_, cc)] => (match K.lookup cc with
    | some ⟨_, _, .cell (some (.ref D)), _⟩ => decide (D = C)
    | _ => false)
  | _ => false
def fileB (K : PySem.W.Frag) (cd : PySem.Value) (file : Str) : Bool := match cd with
  | .ref c => (match K.lookup c with
    | some ⟨_, _, .fields vs, _⟩ => (match (vs[2]? : Option Value) with
      | some (Value.str f _) => decide (file = f)
      | _ => false)
    | _ => false)
  | _ => false
def clsB (K : PySem.W.Frag) (C : Addr) : Bool := match PySem.W.clsIn K C with
  | some cd => cd.hasDict && PySem.W.excTail exB cd.mro
  | none => false
def noneV : Value → Bool
  | .none => true
  | _ => false
theorem noneV_ok {v : Value} (h : noneV v = true) : v = .none := by cases v <;> first | rfl | cases h
def badB (file : Str) (d : BadD) (K : PySem.W.Frag) : Bool :=
  let C := ga K d.cls
  let f := ma K C "__init__"
  PySem.W.excInitIn K C exB "Exception.__new__" && (clsB K C && (optB (PySem.W.findIn K (.ref C) "__setattr__") (some (some (.builtin "object.__setattr__"))) && (optB (PySem.W.subIn K (.ref C) (.type "BaseException")) (some true) &&
  (optB (PySem.W.subIn K (.ref C) (.type "Exception")) (some true) && (optB (PySem.W.mroIn K C (.type "object")) (some true) && (optB (PySem.W.mroIn K C (.ref C)) (some true) && (optB (PySem.W.typeIn K (.ref C)) (some (.type "type")) &&
  (PySem.W.keepIn K (.ref C) && (optB (PySem.W.findIn K (.ref C) "__init__") (some (some (.ref f))) && (optB (PySem.W.typeIn K (.ref f)) (some (.type "function")) && (optB (PySem.W.findIn K (.ref C) d.fl) (some none) &&
  (optB (PySem.W.ks_superIn K C C "__init__") (some (some (.builtin "Exception.__init__"))) && (optB (PySem.W.nsIn K cStatics "thirdparty.any") (some none) && (match K.lookup f with
    | some ⟨_, _, .func fd, _⟩ => PySem.W.codeIn K fd.code d.qual && (cellB K fd.closure C && (fileB K fd.code file && noneV fd.defaults))
    | _ => false))))))))))))))
theorem optB_ok {α : Type} [DecidableEq α] {a b : Option α} (h : optB a b = true) : a = b := of_decide_eq_true h
theorem an {a b : Bool} (h : (a && b) = true) : a = true ∧ b = true := Bool.and_eq_true_iff.mp h
theorem bad_ok {P : Program} {K : PySem.W.Frag} {d : BadD} (e : fnY K (d.cls, some "__init__") = d.val) (h : badB P.main.file d K = true) {p0 p1 p2 p3 p4 p5 p6 p7 p8 p9 : Pos} (hb : d.body = badBody d.fl p0 p1 p2 p3 p4 p5 p6 p7 p8 p9) (hs : d.scope = badScope d.fl)
    (hp : (d.params.posonlyargs ++ d.params.args).head?.map (·.arg) = some ("self" : Str)) (hline : (p2.endLine == p4.line) = true) (htop : (P.main.scope.names.lookup ("super" : Str)).isSome = false) :
    ∃ fd, BadI P K (ga K d.cls) (ma K (ga K d.cls) "__init__") d.fl fd ∧ ∃ kV doc pm cda cc ct an, fd = PySem.W.fnX "__init__" d.qual d.params d.body d.scope [("__class__", cc)] .none kV doc pm an (.ref cda) ct := by
  unfold badB at h
  obtain ⟨h1, h⟩ := an h
  obtain ⟨h2, h⟩ := an h
  obtain ⟨h3, h⟩ := an h
  obtain ⟨h4, h⟩ := an h
  obtain ⟨h5, h⟩ := an h
  obtain ⟨h6, h⟩ := an h
  obtain ⟨h7, h⟩ := an h
  obtain ⟨h8, h⟩ := an h
  obtain ⟨h9, h⟩ := an h
  obtain ⟨h10, h⟩ := an h
  obtain ⟨h11, h⟩ := an h
  obtain ⟨h12, h⟩ := an h
  obtain ⟨h13, h⟩ := an h
  obtain ⟨h14, h⟩ := an h
  unfold fnY at e
  have ef : fAd K (d.cls, some ("__init__" : Str)) = ma K (ga K d.cls) "__init__" := rfl
  rw [ef] at e
  cases q : K.lookup (ma K (ga K d.cls) "__init__") with
  | none =>
    rw [q] at h
    cases h
  | some o =>
    obtain ⟨oc, od, dt, osl⟩ := o
    rw [q] at h e
    cases dt with
    | func fd =>
      obtain ⟨n1, n2, n3, n4, n5, n6, n7, n8, n9, n10, n11, n12, n13, n14, n15⟩ := fd
      have e2 : (some (n1, n2, n3, n4, n5, n6, n7.map (·.1), n15) : FnY) = some (("__init__" : Str), d.qual, d.params, .stmts d.body, d.scope, mainGlobals, [("__class__" : Str)], builtinsNs) := e
      simp only [Option.some.injEq, Prod.mk.injEq] at e2
      obtain ⟨g1, g2, g3, g4, g5, g6, g7, g8⟩ := e2
      subst g1 g2 g3 g4 g5 g6 g8
      have h' : (PySem.W.codeIn K n13 d.qual && (cellB K n7 (ga K d.cls) && (fileB K n13 P.main.file && noneV n8))) = true := h
      obtain ⟨k1, k2⟩ := an h'
      obtain ⟨k3, k2b⟩ := an k2
      obtain ⟨k4, k5⟩ := an k2b
      obtain rfl := noneV_ok k5
      match n7, g7, k3 with
      | [(nm, cc)], g7, k3 =>
        obtain rfl : nm = ("__class__" : Str) := by simpa using g7
        unfold cellB at k3
        dsimp only at k3
        cases qc : K.lookup cc with
        | none => rw [qc] at k3; cases k3
        | some oc2 =>
          obtain ⟨c1, c2, c3, c4⟩ := oc2
          rw [qc] at k3
          cases c3 with
          | cell v =>
            cases v with
            | none => cases k3
            | some v =>
              cases v with
              | ref D =>
                obtain rfl : D = ga K d.cls := of_decide_eq_true k3
                unfold fileB at k4
                cases n13 with
                | ref cda =>
                  dsimp only at k4
                  cases qd : K.lookup cda with
                  | none => rw [qd] at k4; cases k4
                  | some od2 =>
                    obtain ⟨d1, d2, d3, d4⟩ := od2
                    rw [qd] at k4
                    cases d3 with
                    | fields vs =>
                      dsimp only at k4
                      cases qv : vs[2]? with
                      | none => rw [qv] at k4; cases k4
                      | some v2 =>
                        rw [qv] at k4
                        cases v2 with
                        | str f tf =>
                          have hf : P.main.file = f := of_decide_eq_true k4
                          refine ⟨_, ⟨h1, ?_, optB_ok h3, optB_ok h4, optB_ok h5, optB_ok h6, optB_ok h7, optB_ok h8, h9, optB_ok h10, optB_ok h11, optB_ok h12, optB_ok h13, optB_ok h14,
                            ⟨d.qual, p0, p1, p2, p3, p4, p5, p6, p7, p8, p9, d.params, .none, n9, n10, n11, n14, oc, c1, d1, n12, od, c2, d2, cda, cc, osl, c4, d4, vs, f, tf, rfl, hp, ?_, k1, qc, qd, qv, ?_, hline, htop⟩⟩, n9, n10, n11, cda, cc, n14, n12, ?_⟩
                          · unfold clsB at h2
                            cases z : PySem.W.clsIn K (ga K d.cls) with
                            | none => rw [z] at h2; cases h2
                            | some cd =>
                              rw [z] at h2
                              obtain ⟨z1, z2⟩ := an h2
                              exact ⟨cd, rfl, z1, z2⟩
                          · rw [← hb, ← hs]; exact q
                          · rw [hf]; exact beq_self_eq_true _
                          · rw [hb, hs]
                        | _ => cases k4
                    | _ => cases k4
                | _ => cases k4
              | _ => cases k3
          | _ => cases k3
    | _ => cases h
/-! ### the Hook -/
def asB (g : Addr → Option Obj) (n : Nat) : List Addr := cStatics :: sysModules :: He.asD g n
abbrev AlB : Type := He.AlT × List FnY × Bool
section
variable (n : Nat) (fa : List He.Fa) (fn : List He.DefD) (ts : List He.Tab) (bs : List BadD) (fb : List (PySem.W.Frag → Bool))
def obsB (K : PySem.W.Frag) : AlB := (He.obsT fa fn ts K, bs.map fun d => fnY K (d.cls, some "__init__"), fb.all fun f => f K)
def valB (w : World) : AlB := (He.valT fn ts w, bs.map BadD.val, true)
def SaysB (w : World) (K : PySem.W.Frag) : Prop := obsB fa fn ts bs fb K = valB fn ts bs w
def obsBG (g : Addr → Option Obj) : AlB := obsB fa fn ts bs fb (frG g (asB g n))
def hookB : PySem.W.Hook where
  α := AlB
  obs := fun s => obsBG n fa fn ts bs fb s.heap.get?
  val := fun w => valB fn ts bs w
  says := fun w h => ∃ K : PySem.W.Frag, K.In h ∧ SaysB fa fn ts bs fb w K
  of := fun _ _ e => ⟨_, He.frG_in, e⟩
  keeps := fun _ _ _ ⟨K, hK, c⟩ k => ⟨K, PySem.W.Frag.In.keeps hK k, c⟩
theorem obsBG_eq {g : Addr → Option Obj} {s : Shared} (h : ∀ a, g a = s.heap.get? a) : obsBG n fa fn ts bs fb g = (hookB n fa fn ts bs fb).obs s := by
  have e : g = s.heap.get? := funext h
  rw [e] <;> rfl
end
section
variable {fa : List He.Fa} {fn : List He.DefD} {ts : List He.Tab} {bs : List BadD} {fb : List (PySem.W.Frag → Bool)} {w : World} {K : PySem.W.Frag}
theorem SaysB.t (c : SaysB fa fn ts bs fb w K) : He.SaysT fa fn ts w K := congrArg (fun z : AlB => z.1) c
theorem SaysB.b (c : SaysB fa fn ts bs fb w K) (i : Nat) {f : PySem.W.Frag → Bool} (h : fb[i]? = some f := by rfl) : f K = true := by
  have c1 : (fb.all fun f => f K) = true := congrArg (fun z : AlB => z.2.2) c
  exact List.all_eq_true.mp c1 f (List.mem_of_getElem? h)
theorem SaysB.bad (c : SaysB fa fn ts bs fb w K) (i : Nat) {d : BadD} (h : bs[i]? = some d := by rfl) : fnY K (d.cls, some "__init__") = d.val := by
  have c1 : bs.map (fun d => fnY K (d.cls, some "__init__")) = bs.map BadD.val := congrArg (fun z : AlB => z.2.1) c
  have c2 : (bs.map fun d => fnY K (d.cls, some "__init__"))[i]? = (bs.map BadD.val)[i]? := by rw [c1]
  rw [List.getElem?_map, List.getElem?_map, h] at c2
  exact Option.some.inj c2
/-- the function object -/
def fdOf (K : PySem.W.Frag) (p : Str × Option Str) : FuncData := match K.lookup (fAd K p) with
  | some ⟨_, _, .func fd, _⟩ => fd
  | _ => { name := "", qualname := "", params := ⟨[], [], none, [], [], none, []⟩, body := .stmts [], scope := ⟨.function, [], false, false, []⟩, globals := 0, closure := [], defaults := .none, kwdefaults := .none, doc := .none, pyModule := .none, annotations := none, code := .none, closureTuple := .none, builtins := 0 }
theorem SaysB.fun_ (c : SaysB fa fn ts bs fb w K) (i : Nat) {d : He.DefD} (h : fn[i]? = some d := by rfl) : FunD K d.name d.qual d.params d.body d.scope (d.dvs K) (d.kws K) (fAd K d.at_) (fdOf K d.at_) := by
  obtain ⟨fd, F⟩ := c.t.d.def_ i h
  have e : fdOf K d.at_ = fd := by
    obtain ⟨oc, od, dV, kV, doc, pm, an, cdv, ct, osl, _, lk, _⟩ := F.ex
    unfold fdOf
    rw [lk]
  rw [e]
  exact F
end
/-- no list stands in the written part -/
def noLst (K : PySem.W.Frag) : Bool := K.all fun q => match q.2.cls with
  | .type c => !decide (c = "list")
  | _ => true
theorem noLst_ok {K : PySem.W.Frag} (h : noLst K = true) {a : Addr} {o : Obj} (ho : K.lookup a = some o) : o.cls ≠ .type "list" := fun e => by
  have hm : (a, o) ∈ K := by
    clear h e
    induction K with
    | nil => cases ho
    | cons p r ih =>
      obtain ⟨b, u⟩ := p
      have h2 : (match a == b with | true => some u | false => r.lookup a) = some o := ho
      cases q : a == b with
      | true =>
        rw [q] at h2
        cases h2
        rw [beq_iff_eq.mp q]
        exact List.mem_cons_self
      | false =>
        rw [q] at h2
        exact List.mem_cons_of_mem _ (ih h2)
  have h2 := List.all_eq_true.mp h _ hm
  dsimp only at h2
  rw [e] at h2
  simp at h2
/-- sys.modules stands in the written part -/
def sysB (K : PySem.W.Frag) : Bool := (K.lookup sysModules).isSome

/-! ### the end -/
theorem callerA_grd : callerA.guards = some [] := by first | rfl | decide | (unfold callerA; rfl)
theorem law_callT {P : Program} {w : World} {K : PySem.W.Frag} {mg mb : Str → Option Value} {k : Nat} {fa a : Addr} {fd : FuncData} {x : Str} {s₁ : Shared} {vs : List Value} {ns : List Int}
    (KX : K.In s₁.heap) (hno : noLst K = true) (hns : s₁.heap.Ns mainGlobals mg) (hb : s₁.heap.Ns builtinsNs mb) (hbb : ∀ x : Str, x ≠ "__name__" → mb x = bootBuiltins x) (hlim : s₁.heap.NoLimit) (hg : s₁.gens = #[])
    (ha : s₁.heap.get? a = some { cls := .type "list", data := .seq vs.toArray }) (hi : IntsAre vs ns) (hl : ns.length ≤ sizeLine) (hr : GRoom k callerA)
    (T : ∀ base : Heap, K.In base → base.Ns mainGlobals mg → TFn P w K mg base k fa fd [x] [.lst (ns.map D.int)] (fun _ => none) fun d _ => d = .bl true) (hbind : ∀ (s : Shared) (u : Value), BindsTo s fd ⟨[u], []⟩ [(x, u)]) :
    codeAny (model P w) callerA (.call (.ref fa) ⟨[.ref a], []⟩) (fun r s' => r = .ok (.ret (.bool true)) ∧ OldK s₁.heap s'.heap ∧ s'.os = s₁.os ∧ AllBare s'.gens) s₁ := by
  have rv := vals_ints hi
  have lenV := hi.length
  have hka : K.lookup a = none := by
    cases q : K.lookup a with
    | none => rfl
    | some o =>
      have e := KX a o q
      rw [ha] at e
      cases e
      exact absurd rfl (noLst_ok hno q)
  let H : Hp := fun b => if b = a then some (.frz { cls := .type "list", data := .seq vs.toArray } (.lst (ns.map V.int))) else none
  have Ha : H a = some (.frz { cls := .type "list", data := .seq vs.toArray } (.lst (ns.map V.int))) := if_pos rfl
  have Hn : ∀ {b : Addr}, b ≠ a → H b = none := fun h => if_neg h
  have only : ∀ {b : Addr}, H b ≠ none → b = a := fun {b} z => by
    by_cases hb : b = a
    · exact hb
    · exact absurd (Hn hb) z
  have hok : HOk P w H s₁.heap := fun b u z => by
    by_cases hb : b = a
    · subst hb
      rw [Ha] at z
      cases z
      exact ⟨ha, by rw [List.length_map]; exact hl, vs, _, rv, ha⟩
    · rw [Hn hb] at z; cases z
  have base_of : ∀ {b : Addr} {o : Obj}, s₁.heap.get? b = some o → H b = none → (hidT s₁.heap H).get? b = some o := fun e n => hidT_get e n
  have noA : ∀ {b : Addr} {o : Obj} {es : Array DictEntry} {ep : Nat}, s₁.heap.get? b = some o → o.data = .dict es ep → H b = none := fun {b o es ep} e d => by
    by_cases hb : b = a
    · subst hb
      rw [ha] at e
      cases e
      have d' : Data.seq vs.toArray _ = Data.dict es ep := d
      cases d'
    · exact Hn hb
  have nsK : ∀ {b : Addr} {m : Str → Option Value}, s₁.heap.Ns b m → (hidT s₁.heap H).Ns b m := fun {b m} ⟨o, es, ep, e, d, r⟩ => ⟨o, es, ep, base_of e (noA e d), d, r⟩
  have hKb : K.In (hidT s₁.heap H) := fun b o e => base_of (KX b o e) (Hn fun z => by rw [z, hka] at e; cases e)
  have hM : Mod K mg (hidT s₁.heap H) := ⟨hKb, nsK hns, ⟨mb, nsK hb, hbb⟩, let ⟨mc, h1, h2⟩ := hlim; ⟨mc, nsK h1, h2⟩⟩
  have e0 : Env0 P w K mg (hidT s₁.heap H) callerA [] s₁ H := ⟨rfl, hM, fun b o e => of_hidT e, Nat.le_of_eq (hidT_size _ _), trivial, fun b hb => absurd (show b ∈ ([] : List Addr) from hb) (by simp), hok, .of_eq hg⟩
  have good : Good K H H (fun _ => none) := ⟨Sub.refl H, fun _ _ z => (nomatch z), fun _ _ z => (nomatch z)⟩
  have rep : Rep K H (.ref a) (.lst (ns.map D.int)) := .lst (.inr ⟨_, Ha⟩) (rep_ints ns)
  refine codeAny_mono ((T _ hKb (nsK hns)).run callerA [] s₁ H H ⟨[.ref a], []⟩ [.ref a] [.ref a] hr e0 (hbind s₁ (.ref a)) (.cons rfl .nil) good (.cons rep .nil)) fun r s' h => ?_
  cases r with
  | error e => exact absurd h noX_cx
  | ok fl =>
    cases fl with
    | next => exact False.elim h
    | brk => exact False.elim h
    | cont => exact False.elim h
    | ret u =>
      obtain ⟨v, H', os, bare, un, hok', r', F', M', d, t, rp, q⟩ := h
      subst q
      cases rp
      obtain rfl : u = Value.bool true := r'
      refine ⟨rfl, OldK.of_keep fun b o e => ?_, os, bare⟩
      by_cases hb : b = a
      · have z2 := un.frzs b _ _ (hb ▸ Ha)
        obtain ⟨e1, _⟩ := hok b _ (hb ▸ Ha)
        obtain ⟨e2, _⟩ := hok' b _ z2
        rw [e] at e1
        cases e1
        exact e2
      · exact un.keep b o e (Hn hb) (by intro z; exact absurd (show b ∈ ([] : List Addr) from z) (by simp)) (by simp)
theorem walkT {l : PySem.W.OpenLaw} {n k : Nat} {q : Program} {loose : List Str} {XP : (Str → Option Value) → Heap → Prop} {YP : World → Heap → Prop} {d : DefRec} {x : Str}
    (hn : l.most = some n) (hn2 : n ≤ sizeLine) (hdf : d.params.defaults = []) (hr : Room k callerA)
    (F : ∀ (w : World) (mg : Str → Option Value) (fa : Addr) (h : Heap), YP w h → h.Ns mainGlobals mg → mg d.name = some (.ref fa) →
      ∃ (K : PySem.W.Frag) (fd : FuncData), K.In h ∧ noLst K = true ∧ (∀ (s : Shared) (u : Value), BindsTo s fd ⟨[u], []⟩ [(x, u)]) ∧
        ∀ ns : List Int, ns.length ≤ n → ∀ base : Heap, K.In base → base.Ns mainGlobals mg → TFn l.prog w K mg base k fa fd [x] [.lst (ns.map D.int)] (fun _ => none) fun d _ => d = .bl true) :
    PySem.W.WalkO q loose XP YP l.row.toRowW d [] (fun f vs => PySem.call f vs) := by
  refine Att.attach_call hn hdf fun w s₀ s₁ mg mb fa o pm cd doc a vs ns G Y ho hd hcd hmg hobj hints hlen hg => ?_
  obtain ⟨K, fd, KX, hno, hb, hF⟩ := F w mg fa _ Y G.T.g hmg
  exact law_callT KX hno G.T.g G.T.b G.T.builtins G.T.nolimit hg hobj hints (Nat.le_trans hlen hn2) ⟨hr, callerA_grd⟩ (fun base k1 k2 => hF ns hlen base k1 k2) hb
end TL
end
section
set_option maxRecDepth 100000
set_option maxHeartbeats 0
/-! K81A: the head of k81. -/
namespace K81
open PySem PySem.Spec PyProof.Rows L2 TL
open He (ga ma fAd)
def top (i : Nat) : Stmt := PySem.Challenge.pw_loomhold_k81_reduced_looms_and_first_cro.main.body.getD i (.Pass ⟨0, 0, 0, 0⟩)
def clsBody (s : Stmt) : List Stmt := match s with
  | .ClassDef _ _ _ b _ _ _ _ _ _ _ => b
  | _ => []
def me (i j : Nat) : Stmt := (clsBody (top i)).getD j (.Pass ⟨0, 0, 0, 0⟩)
def dF (i : Nat) (x : Str) : He.DefD := ⟨(x, none), x, x, defArgs (top i), defBody (top i), defScope (top i), [], []⟩
def dM (i j : Nat) (C m q : Str) : He.DefD := ⟨(C, some m), m, q, defArgs (me i j), defBody (me i j), defScope (me i j), [], []⟩
def fn0 : List He.DefD := [dF 11 "is_whole", dF 12 "is_below", dF 13 "do_rise", dF 14 "is_lift_below", dF 19 "is_treadling", dF 24 "is_pick", dF 26 "pick_of", dF 27 "woven", dF 30 "kinds_in_order", dF 31 "firsts_of_kinds", dF 32 "signs_of_ends", dF 33 "end_kinds", dF 34 "pick_kinds", dF 35 "fewest_shafts", dF 36 "fewest_treadles"]
def fn1 : List He.DefD := [dF 37 "sign_at", dF 38 "first_crossing", dF 39 "shaft_kinds", dF 40 "reduced", dF 41 "is_reduced", dF 42 "led_treadling", dF 44 "_law_deck", dF 45 "_law_draw", dF 46 "_law_pick", dF 47 "_law_word", dF 48 "_law_loom", dF 49 "_law_woven", dF 50 "_law_bent", dF 51 "_law_reduced", dF 52 "_law_code"]
def fn2 : List He.DefD := [dF 53 "_law_text", dF 54 "_law_led", dF 55 "_law_loom_right", dF 56 "_law_letters_right", dF 57 "_law_first", dF 58 "_law_changed", dF 59 "_law_crossing_right", dF 60 "law", dM 18 0 "Loom" "__init__" "Loom.__init__", dM 18 3 "Loom" "__len__" "Loom.__len__", dM 18 4 "Loom" "__eq__" "Loom.__eq__", dM 18 5 "Loom" "lift_of" "Loom.lift_of", dM 25 0 "Cloth" "__init__" "Cloth.__init__", dM 25 3 "Cloth" "__len__" "Cloth.__len__", dM 25 4 "Cloth" "__eq__" "Cloth.__eq__"]
def fn : List He.DefD := fn0 ++ fn1 ++ fn2
def fa0 : List He.Fa := [.glo "is_whole", .glo "is_below", .glo "do_rise", .glo "is_lift_below", .glo "is_treadling", .glo "is_pick", .glo "pick_of", .glo "woven", .glo "kinds_in_order", .glo "firsts_of_kinds", .glo "signs_of_ends", .glo "end_kinds", .glo "pick_kinds", .glo "fewest_shafts", .glo "fewest_treadles"]
def fa1 : List He.Fa := [.glo "sign_at", .glo "first_crossing", .glo "shaft_kinds", .glo "reduced", .glo "is_reduced", .glo "led_treadling", .glo "_law_deck", .glo "_law_draw", .glo "_law_pick", .glo "_law_word", .glo "_law_loom", .glo "_law_woven", .glo "_law_bent", .glo "_law_reduced", .glo "_law_code"]
def fa2 : List He.Fa := [.glo "_law_text", .glo "_law_led", .glo "_law_loom_right", .glo "_law_letters_right", .glo "_law_first", .glo "_law_changed", .glo "_law_crossing_right", .glo "law", .glo "Loom", .glo "Cloth", .glo "BadTreadling", .glo "LoomError", .glo "OTHER", .free "isinstance", .free "int"]
def fa3 : List He.Fa := [.free "bool", .free "tuple", .free "str", .free "list", .free "dict", .free "len", .free "range", .free "zip", .free "enumerate", .free "sorted", .free "set", .free "all", .free "max", .free "min", .free "sum"]
def fa4 : List He.Fa := [.free "repr", .free "super", .str "TREADLES" "abcdefghijklmnopqrstuvwxyz", .str "LETTERS" "abcdefghijklmnopqrstuvwxyz", .str "ABOVE" "x", .str "BELOW" "-", .int "MOST_SHAFTS" 99, .cls "Loom", .cls "Cloth", .mkr "Loom", .mkr "Cloth", .meth "Loom" "lift_of", .noat "Loom" "shafts", .noat "Loom" "threading", .noat "Loom" "lifts"]
def fa5 : List He.Fa := [.noat "Loom" "letters", .noat "Loom" "used", .noat "Cloth" "picks", .noat "Cloth" "ends", .exm "BadTreadling" "BadTreadling" true]
def fa : List He.Fa := fa0 ++ fa1 ++ fa2 ++ fa3 ++ fa4 ++ fa5
def ts : List He.Tab := [(fun K => ga K "OTHER", ["x", "-"])]
def dBad : BadD := ⟨"BadTreadling", "thing", "BadTreadling.__init__", defArgs (me 6 0), defBody (me 6 0), defScope (me 6 0)⟩
def bs : List BadD := [dBad]
def isB (C : Str) (K : PySem.W.Frag) : Bool := optB (PySem.W.findIn K (.ref (ga K C)) "__class__") (some (some (.builtin "object.__class__"))) && (optB (PySem.W.specialIn K (.builtin "object.__class__") "__get__") (some (some (.builtin "getset_descriptor.__get__"))) &&
  (optB (PySem.W.takesIn K (.builtin "object.__class__")) (some true) && optB (PySem.W.mroIn K (ga K C) (.type "object")) (some true)))
def kitB2 (C L : Str) (K : PySem.W.Frag) : Bool := optB (PySem.W.kitOne K (.ref (ga K C)) (.ref (ga K L))) (some true)
def specB (C m : Str) (K : PySem.W.Frag) : Bool := optB (PySem.W.findIn K (.ref (ga K C)) m) (some (some (.ref (ma K (ga K C) m)))) && PySem.W.isFn K (.ref (ma K (ga K C) m))
def neB (C : Str) (K : PySem.W.Frag) : Bool := optB (PySem.W.findIn K (.ref (ga K C)) "__ne__") (some (some (.builtin "object.__ne__")))
def excCB (C : Str) (K : PySem.W.Frag) : Bool := L2.xfB K (ga K C) && isB C K
def noxB (C f : Str) (K : PySem.W.Frag) : Bool := optB (PySem.W.findIn K (.ref (ga K C)) f) (some none)
def inB (d x : Str) (K : PySem.W.Frag) : Bool := match PySem.W.nsIn K (ga K d) x with
  | some (some _) => true
  | _ => false
def fb : List (PySem.W.Frag → Bool) := [noLst, sysB, badB PySem.Challenge.pw_loomhold_k81_reduced_looms_and_first_cro.main.file dBad, isB "Loom", isB "Cloth", kitB2 "Loom" "Loom", kitB2 "Cloth" "Cloth", kitB2 "BadTreadling" "LoomError", specB "Loom" "__len__", specB "Loom" "__eq__", specB "Cloth" "__len__", specB "Cloth" "__eq__", neB "Cloth", excCB "BadTreadling", inB "OTHER" "x", inB "OTHER" "-", noxB "BadTreadling" "thing"]
abbrev R : PySem.W.OpenRow := PySem.W.OpenLaw.row PySem.Challenge.rw_loomhold_k81_reduced_looms_and_first_cro
abbrev hk : PySem.W.Hook := hookB 4 fa fn ts bs fb
def ob (s : PySem.W.SharedT) : AlB := obsBG 4 fa fn ts bs fb (HandSHeadRun.getT s)
theorem ob_eq (s : PySem.W.SharedT) : ob s = hk.obs s.abs := obsBG_eq 4 fa fn ts bs fb (HandSHeadRun.getT_eq s)
def loose0 : List PySem.Str := ["is_whole", "is_below", "do_rise", "is_lift_below", "is_treadling", "is_pick", "pick_of", "woven", "kinds_in_order", "firsts_of_kinds", "signs_of_ends", "end_kinds", "pick_kinds", "fewest_shafts", "fewest_treadles", "sign_at", "first_crossing", "shaft_kinds", "reduced", "is_reduced"]
def loose1 : List PySem.Str := ["led_treadling", "_law_deck", "_law_draw", "_law_pick", "_law_word", "_law_loom", "_law_woven", "_law_bent", "_law_reduced", "_law_code", "_law_text", "_law_led", "_law_loom_right", "_law_letters_right", "_law_first", "_law_changed", "_law_crossing_right", "_wall", "LoomError", "BadLoom"]
def loose2 : List PySem.Str := ["BadCloth", "BadText", "BadTreadling", "TREADLES", "MOST_SHAFTS", "DIGITS", "numbers_of", "row_numbers", "lift_of_line", "Loom", "ABOVE", "BELOW", "OTHER", "Cloth", "LETTERS"]
def loose : List PySem.Str := loose0 ++ loose1 ++ loose2
theorem runF (w : World) : HandSHeadRun.RunEq R (PySem.W.view R.prog [60]) hk ob 4000 loose (w.withFollow "special-get-raises" false) := by
  intro os
  kernel_rfl
theorem runT (w : World) : HandSHeadRun.RunEq R (PySem.W.view R.prog [60]) hk ob 4000 loose (w.withFollow "special-get-raises" true) := by
  intro os
  kernel_rfl
theorem run (w : World) : HandSHeadRun.RunEq R (PySem.W.view R.prog [60]) hk ob 4000 loose w :=
  PySem.W.byRow2 "special-get-raises" (P := fun w => HandSHeadRun.RunEq R (PySem.W.view R.prog [60]) hk ob 4000 loose w) runF runT w
end K81
end
section
set_option maxRecDepth 100000
set_option maxHeartbeats 0
/-! K81B: the defs of k81, their facts. -/
namespace K81
open PySem PySem.Spec PyProof.Rows L2 TL
open He (ga ma fAd)
structure E81 (w : World) (K : PySem.W.Frag) (mg : Str → Option Value) (base : Heap) : Prop where
  kin : K.In base
  ns : base.Ns mainGlobals mg
  says : SaysB fa fn ts bs fb w K
section
variable {w : World} {K : PySem.W.Frag} {mg : Str → Option Value} {base : Heap}
/-- 0 thing -/
abbrev n_is_whole : List Str := ["thing"]
theorem s_is_whole : FnScope n_is_whole ["thing"] (defScope (top 11)) := ⟨rfl, rfl, rfl, by decide +kernel, rfl, by decide +kernel, by decide +kernel⟩
theorem E81.f_is_whole (c : E81 w K mg base) : FunD K "is_whole" "is_whole" (defArgs (top 11)) (defBody (top 11)) (defScope (top 11)) [] [] (ga K "is_whole") (fdOf K ("is_whole", none)) := c.says.fun_ 0
theorem E81.b_is_whole (c : E81 w K mg base) : Binds K (fdOf K ("is_whole", none)) ["thing"] [] := c.f_is_whole.bindsN fun _ _ _ _ _ _ us hl => match us, hl with | [_], _ => rfl
theorem E81.g_is_whole (c : E81 w K mg base) : mg "is_whole" = some (.ref (ga K "is_whole")) := He.glo_ok c.kin c.ns (c.says.t.d.fact 0)
/-- 0 thing, 1 bound -/
abbrev n_is_below : List Str := ["thing", "bound"]
theorem s_is_below : FnScope n_is_below ["thing", "bound"] (defScope (top 12)) := ⟨rfl, rfl, rfl, by decide +kernel, rfl, by decide +kernel, by decide +kernel⟩
theorem E81.f_is_below (c : E81 w K mg base) : FunD K "is_below" "is_below" (defArgs (top 12)) (defBody (top 12)) (defScope (top 12)) [] [] (ga K "is_below") (fdOf K ("is_below", none)) := c.says.fun_ 1
theorem E81.b_is_below (c : E81 w K mg base) : Binds K (fdOf K ("is_below", none)) ["thing", "bound"] [] := c.f_is_below.bindsN fun _ _ _ _ _ _ us hl => match us, hl with | [_, _], _ => rfl
theorem E81.g_is_below (c : E81 w K mg base) : mg "is_below" = some (.ref (ga K "is_below")) := He.glo_ok c.kin c.ns (c.says.t.d.fact 1)
/-- 0 numbers, 1 one, 2 other -/
abbrev n_do_rise : List Str := ["numbers", "one", "other"]
theorem s_do_rise : FnScope n_do_rise ["numbers"] (defScope (top 13)) := ⟨rfl, rfl, rfl, by decide +kernel, rfl, by decide +kernel, by decide +kernel⟩
theorem E81.f_do_rise (c : E81 w K mg base) : FunD K "do_rise" "do_rise" (defArgs (top 13)) (defBody (top 13)) (defScope (top 13)) [] [] (ga K "do_rise") (fdOf K ("do_rise", none)) := c.says.fun_ 2
theorem E81.b_do_rise (c : E81 w K mg base) : Binds K (fdOf K ("do_rise", none)) ["numbers"] [] := c.f_do_rise.bindsN fun _ _ _ _ _ _ us hl => match us, hl with | [_], _ => rfl
theorem E81.g_do_rise (c : E81 w K mg base) : mg "do_rise" = some (.ref (ga K "do_rise")) := He.glo_ok c.kin c.ns (c.says.t.d.fact 2)
/-- 0 shafts, 1 thing, 2 shaft -/
abbrev n_is_lift_below : List Str := ["shafts", "thing", "shaft"]
theorem s_is_lift_below : FnScope n_is_lift_below ["shafts", "thing"] (defScope (top 14)) := ⟨rfl, rfl, rfl, by decide +kernel, rfl, by decide +kernel, by decide +kernel⟩
theorem E81.f_is_lift_below (c : E81 w K mg base) : FunD K "is_lift_below" "is_lift_below" (defArgs (top 14)) (defBody (top 14)) (defScope (top 14)) [] [] (ga K "is_lift_below") (fdOf K ("is_lift_below", none)) := c.says.fun_ 3
theorem E81.b_is_lift_below (c : E81 w K mg base) : Binds K (fdOf K ("is_lift_below", none)) ["shafts", "thing"] [] := c.f_is_lift_below.bindsN fun _ _ _ _ _ _ us hl => match us, hl with | [_, _], _ => rfl
theorem E81.g_is_lift_below (c : E81 w K mg base) : mg "is_lift_below" = some (.ref (ga K "is_lift_below")) := He.glo_ok c.kin c.ns (c.says.t.d.fact 3)
/-- 0 loom, 1 thing, 2 sign -/
abbrev n_is_treadling : List Str := ["loom", "thing", "sign"]
theorem s_is_treadling : FnScope n_is_treadling ["loom", "thing"] (defScope (top 19)) := ⟨rfl, rfl, rfl, by decide +kernel, rfl, by decide +kernel, by decide +kernel⟩
theorem E81.f_is_treadling (c : E81 w K mg base) : FunD K "is_treadling" "is_treadling" (defArgs (top 19)) (defBody (top 19)) (defScope (top 19)) [] [] (ga K "is_treadling") (fdOf K ("is_treadling", none)) := c.says.fun_ 4
theorem E81.b_is_treadling (c : E81 w K mg base) : Binds K (fdOf K ("is_treadling", none)) ["loom", "thing"] [] := c.f_is_treadling.bindsN fun _ _ _ _ _ _ us hl => match us, hl with | [_, _], _ => rfl
theorem E81.g_is_treadling (c : E81 w K mg base) : mg "is_treadling" = some (.ref (ga K "is_treadling")) := He.glo_ok c.kin c.ns (c.says.t.d.fact 4)
/-- 0 thing, 1 sign -/
abbrev n_is_pick : List Str := ["thing", "sign"]
theorem s_is_pick : FnScope n_is_pick ["thing"] (defScope (top 24)) := ⟨rfl, rfl, rfl, by decide +kernel, rfl, by decide +kernel, by decide +kernel⟩
theorem E81.f_is_pick (c : E81 w K mg base) : FunD K "is_pick" "is_pick" (defArgs (top 24)) (defBody (top 24)) (defScope (top 24)) [] [] (ga K "is_pick") (fdOf K ("is_pick", none)) := c.says.fun_ 5
theorem E81.b_is_pick (c : E81 w K mg base) : Binds K (fdOf K ("is_pick", none)) ["thing"] [] := c.f_is_pick.bindsN fun _ _ _ _ _ _ us hl => match us, hl with | [_], _ => rfl
theorem E81.g_is_pick (c : E81 w K mg base) : mg "is_pick" = some (.ref (ga K "is_pick")) := He.glo_ok c.kin c.ns (c.says.t.d.fact 5)
/-- 0 loom, 1 letter, 2 lift, 3 shaft -/
abbrev n_pick_of : List Str := ["loom", "letter", "lift", "shaft"]
theorem s_pick_of : FnScope n_pick_of ["loom", "letter"] (defScope (top 26)) := ⟨rfl, rfl, rfl, by decide +kernel, rfl, by decide +kernel, by decide +kernel⟩
theorem E81.f_pick_of (c : E81 w K mg base) : FunD K "pick_of" "pick_of" (defArgs (top 26)) (defBody (top 26)) (defScope (top 26)) [] [] (ga K "pick_of") (fdOf K ("pick_of", none)) := c.says.fun_ 6
theorem E81.b_pick_of (c : E81 w K mg base) : Binds K (fdOf K ("pick_of", none)) ["loom", "letter"] [] := c.f_pick_of.bindsN fun _ _ _ _ _ _ us hl => match us, hl with | [_, _], _ => rfl
theorem E81.g_pick_of (c : E81 w K mg base) : mg "pick_of" = some (.ref (ga K "pick_of")) := He.glo_ok c.kin c.ns (c.says.t.d.fact 6)
/-- 0 loom, 1 treadling, 2 rows, 3 letter -/
abbrev n_woven : List Str := ["loom", "treadling", "rows", "letter"]
theorem s_woven : FnScope n_woven ["loom", "treadling"] (defScope (top 27)) := ⟨rfl, rfl, rfl, by decide +kernel, rfl, by decide +kernel, by decide +kernel⟩
theorem E81.f_woven (c : E81 w K mg base) : FunD K "woven" "woven" (defArgs (top 27)) (defBody (top 27)) (defScope (top 27)) [] [] (ga K "woven") (fdOf K ("woven", none)) := c.says.fun_ 7
theorem E81.b_woven (c : E81 w K mg base) : Binds K (fdOf K ("woven", none)) ["loom", "treadling"] [] := c.f_woven.bindsN fun _ _ _ _ _ _ us hl => match us, hl with | [_, _], _ => rfl
theorem E81.g_woven (c : E81 w K mg base) : mg "woven" = some (.ref (ga K "woven")) := He.glo_ok c.kin c.ns (c.says.t.d.fact 7)
/-- 0 items, 1 numbers, 2 item -/
abbrev n_kinds_in_order : List Str := ["items", "numbers", "item"]
theorem s_kinds_in_order : FnScope n_kinds_in_order ["items"] (defScope (top 30)) := ⟨rfl, rfl, rfl, by decide +kernel, rfl, by decide +kernel, by decide +kernel⟩
theorem E81.f_kinds_in_order (c : E81 w K mg base) : FunD K "kinds_in_order" "kinds_in_order" (defArgs (top 30)) (defBody (top 30)) (defScope (top 30)) [] [] (ga K "kinds_in_order") (fdOf K ("kinds_in_order", none)) := c.says.fun_ 8
theorem E81.b_kinds_in_order (c : E81 w K mg base) : Binds K (fdOf K ("kinds_in_order", none)) ["items"] [] := c.f_kinds_in_order.bindsN fun _ _ _ _ _ _ us hl => match us, hl with | [_], _ => rfl
theorem E81.g_kinds_in_order (c : E81 w K mg base) : mg "kinds_in_order" = some (.ref (ga K "kinds_in_order")) := He.glo_ok c.kin c.ns (c.says.t.d.fact 8)
/-- 0 kinds, 1 kind -/
abbrev n_firsts_of_kinds : List Str := ["kinds", "kind"]
theorem s_firsts_of_kinds : FnScope n_firsts_of_kinds ["kinds"] (defScope (top 31)) := ⟨rfl, rfl, rfl, by decide +kernel, rfl, by decide +kernel, by decide +kernel⟩
theorem E81.f_firsts_of_kinds (c : E81 w K mg base) : FunD K "firsts_of_kinds" "firsts_of_kinds" (defArgs (top 31)) (defBody (top 31)) (defScope (top 31)) [] [] (ga K "firsts_of_kinds") (fdOf K ("firsts_of_kinds", none)) := c.says.fun_ 9
theorem E81.b_firsts_of_kinds (c : E81 w K mg base) : Binds K (fdOf K ("firsts_of_kinds", none)) ["kinds"] [] := c.f_firsts_of_kinds.bindsN fun _ _ _ _ _ _ us hl => match us, hl with | [_], _ => rfl
theorem E81.g_firsts_of_kinds (c : E81 w K mg base) : mg "firsts_of_kinds" = some (.ref (ga K "firsts_of_kinds")) := He.glo_ok c.kin c.ns (c.says.t.d.fact 9)
/-- 0 cloth, 1 pick, 2 end -/
abbrev n_signs_of_ends : List Str := ["cloth", "pick", "end"]
theorem s_signs_of_ends : FnScope n_signs_of_ends ["cloth"] (defScope (top 32)) := ⟨rfl, rfl, rfl, by decide +kernel, rfl, by decide +kernel, by decide +kernel⟩
theorem E81.f_signs_of_ends (c : E81 w K mg base) : FunD K "signs_of_ends" "signs_of_ends" (defArgs (top 32)) (defBody (top 32)) (defScope (top 32)) [] [] (ga K "signs_of_ends") (fdOf K ("signs_of_ends", none)) := c.says.fun_ 10
theorem E81.b_signs_of_ends (c : E81 w K mg base) : Binds K (fdOf K ("signs_of_ends", none)) ["cloth"] [] := c.f_signs_of_ends.bindsN fun _ _ _ _ _ _ us hl => match us, hl with | [_], _ => rfl
theorem E81.g_signs_of_ends (c : E81 w K mg base) : mg "signs_of_ends" = some (.ref (ga K "signs_of_ends")) := He.glo_ok c.kin c.ns (c.says.t.d.fact 10)
/-- 0 cloth -/
abbrev n_end_kinds : List Str := ["cloth"]
theorem s_end_kinds : FnScope n_end_kinds ["cloth"] (defScope (top 33)) := ⟨rfl, rfl, rfl, by decide +kernel, rfl, by decide +kernel, by decide +kernel⟩
theorem E81.f_end_kinds (c : E81 w K mg base) : FunD K "end_kinds" "end_kinds" (defArgs (top 33)) (defBody (top 33)) (defScope (top 33)) [] [] (ga K "end_kinds") (fdOf K ("end_kinds", none)) := c.says.fun_ 11
theorem E81.b_end_kinds (c : E81 w K mg base) : Binds K (fdOf K ("end_kinds", none)) ["cloth"] [] := c.f_end_kinds.bindsN fun _ _ _ _ _ _ us hl => match us, hl with | [_], _ => rfl
theorem E81.g_end_kinds (c : E81 w K mg base) : mg "end_kinds" = some (.ref (ga K "end_kinds")) := He.glo_ok c.kin c.ns (c.says.t.d.fact 11)
/-- 0 cloth -/
abbrev n_pick_kinds : List Str := ["cloth"]
theorem s_pick_kinds : FnScope n_pick_kinds ["cloth"] (defScope (top 34)) := ⟨rfl, rfl, rfl, by decide +kernel, rfl, by decide +kernel, by decide +kernel⟩
theorem E81.f_pick_kinds (c : E81 w K mg base) : FunD K "pick_kinds" "pick_kinds" (defArgs (top 34)) (defBody (top 34)) (defScope (top 34)) [] [] (ga K "pick_kinds") (fdOf K ("pick_kinds", none)) := c.says.fun_ 12
theorem E81.b_pick_kinds (c : E81 w K mg base) : Binds K (fdOf K ("pick_kinds", none)) ["cloth"] [] := c.f_pick_kinds.bindsN fun _ _ _ _ _ _ us hl => match us, hl with | [_], _ => rfl
theorem E81.g_pick_kinds (c : E81 w K mg base) : mg "pick_kinds" = some (.ref (ga K "pick_kinds")) := He.glo_ok c.kin c.ns (c.says.t.d.fact 12)
/-- 0 cloth -/
abbrev n_fewest_shafts : List Str := ["cloth"]
theorem s_fewest_shafts : FnScope n_fewest_shafts ["cloth"] (defScope (top 35)) := ⟨rfl, rfl, rfl, by decide +kernel, rfl, by decide +kernel, by decide +kernel⟩
theorem E81.f_fewest_shafts (c : E81 w K mg base) : FunD K "fewest_shafts" "fewest_shafts" (defArgs (top 35)) (defBody (top 35)) (defScope (top 35)) [] [] (ga K "fewest_shafts") (fdOf K ("fewest_shafts", none)) := c.says.fun_ 13
theorem E81.b_fewest_shafts (c : E81 w K mg base) : Binds K (fdOf K ("fewest_shafts", none)) ["cloth"] [] := c.f_fewest_shafts.bindsN fun _ _ _ _ _ _ us hl => match us, hl with | [_], _ => rfl
theorem E81.g_fewest_shafts (c : E81 w K mg base) : mg "fewest_shafts" = some (.ref (ga K "fewest_shafts")) := He.glo_ok c.kin c.ns (c.says.t.d.fact 13)
/-- 0 cloth -/
abbrev n_fewest_treadles : List Str := ["cloth"]
theorem s_fewest_treadles : FnScope n_fewest_treadles ["cloth"] (defScope (top 36)) := ⟨rfl, rfl, rfl, by decide +kernel, rfl, by decide +kernel, by decide +kernel⟩
theorem E81.f_fewest_treadles (c : E81 w K mg base) : FunD K "fewest_treadles" "fewest_treadles" (defArgs (top 36)) (defBody (top 36)) (defScope (top 36)) [] [] (ga K "fewest_treadles") (fdOf K ("fewest_treadles", none)) := c.says.fun_ 14
theorem E81.b_fewest_treadles (c : E81 w K mg base) : Binds K (fdOf K ("fewest_treadles", none)) ["cloth"] [] := c.f_fewest_treadles.bindsN fun _ _ _ _ _ _ us hl => match us, hl with | [_], _ => rfl
theorem E81.g_fewest_treadles (c : E81 w K mg base) : mg "fewest_treadles" = some (.ref (ga K "fewest_treadles")) := He.glo_ok c.kin c.ns (c.says.t.d.fact 14)
/-- 0 cloth, 1 pick, 2 end -/
abbrev n_sign_at : List Str := ["cloth", "pick", "end"]
theorem s_sign_at : FnScope n_sign_at ["cloth", "pick", "end"] (defScope (top 37)) := ⟨rfl, rfl, rfl, by decide +kernel, rfl, by decide +kernel, by decide +kernel⟩
theorem E81.f_sign_at (c : E81 w K mg base) : FunD K "sign_at" "sign_at" (defArgs (top 37)) (defBody (top 37)) (defScope (top 37)) [] [] (ga K "sign_at") (fdOf K ("sign_at", none)) := c.says.fun_ 15
theorem E81.b_sign_at (c : E81 w K mg base) : Binds K (fdOf K ("sign_at", none)) ["cloth", "pick", "end"] [] := c.f_sign_at.bindsN fun _ _ _ _ _ _ us hl => match us, hl with | [_, _, _], _ => rfl
theorem E81.g_sign_at (c : E81 w K mg base) : mg "sign_at" = some (.ref (ga K "sign_at")) := He.glo_ok c.kin c.ns (c.says.t.d.fact 15)
/-- 0 one, 1 other, 2 near, 3 far, 4 loom, 5 treadling, 6 pick, 7 end -/
abbrev n_first_crossing : List Str := ["one", "other", "near", "far", "loom", "treadling", "pick", "end"]
theorem s_first_crossing : FnScope n_first_crossing ["one", "other"] (defScope (top 38)) := ⟨rfl, rfl, rfl, by decide +kernel, rfl, by decide +kernel, by decide +kernel⟩
theorem E81.f_first_crossing (c : E81 w K mg base) : FunD K "first_crossing" "first_crossing" (defArgs (top 38)) (defBody (top 38)) (defScope (top 38)) [] [] (ga K "first_crossing") (fdOf K ("first_crossing", none)) := c.says.fun_ 16
theorem E81.b_first_crossing (c : E81 w K mg base) : Binds K (fdOf K ("first_crossing", none)) ["one", "other"] [] := c.f_first_crossing.bindsN fun _ _ _ _ _ _ us hl => match us, hl with | [_, _], _ => rfl
theorem E81.g_first_crossing (c : E81 w K mg base) : mg "first_crossing" = some (.ref (ga K "first_crossing")) := He.glo_ok c.kin c.ns (c.says.t.d.fact 16)
/-- 0 loom, 1 columns, 2 lift, 3 shaft -/
abbrev n_shaft_kinds : List Str := ["loom", "columns", "lift", "shaft"]
theorem s_shaft_kinds : FnScope n_shaft_kinds ["loom"] (defScope (top 39)) := ⟨rfl, rfl, rfl, by decide +kernel, rfl, by decide +kernel, by decide +kernel⟩
theorem E81.f_shaft_kinds (c : E81 w K mg base) : FunD K "shaft_kinds" "shaft_kinds" (defArgs (top 39)) (defBody (top 39)) (defScope (top 39)) [] [] (ga K "shaft_kinds") (fdOf K ("shaft_kinds", none)) := c.says.fun_ 17
theorem E81.b_shaft_kinds (c : E81 w K mg base) : Binds K (fdOf K ("shaft_kinds", none)) ["loom"] [] := c.f_shaft_kinds.bindsN fun _ _ _ _ _ _ us hl => match us, hl with | [_], _ => rfl
theorem E81.g_shaft_kinds (c : E81 w K mg base) : mg "shaft_kinds" = some (.ref (ga K "shaft_kinds")) := He.glo_ok c.kin c.ns (c.says.t.d.fact 17)
/-- 0 loom, 1 kinds, 2 lifts, 3 shaft, 4 lift, 5 treadles, 6 threading, 7 fewer, 8 number, 9 kind -/
abbrev n_reduced : List Str := ["loom", "kinds", "lifts", "shaft", "lift", "treadles", "threading", "fewer", "number", "kind"]
theorem s_reduced : FnScope n_reduced ["loom"] (defScope (top 40)) := ⟨rfl, rfl, rfl, by decide +kernel, rfl, by decide +kernel, by decide +kernel⟩
theorem E81.f_reduced (c : E81 w K mg base) : FunD K "reduced" "reduced" (defArgs (top 40)) (defBody (top 40)) (defScope (top 40)) [] [] (ga K "reduced") (fdOf K ("reduced", none)) := c.says.fun_ 18
theorem E81.b_reduced (c : E81 w K mg base) : Binds K (fdOf K ("reduced", none)) ["loom"] [] := c.f_reduced.bindsN fun _ _ _ _ _ _ us hl => match us, hl with | [_], _ => rfl
theorem E81.g_reduced (c : E81 w K mg base) : mg "reduced" = some (.ref (ga K "reduced")) := He.glo_ok c.kin c.ns (c.says.t.d.fact 18)
/-- 0 loom -/
abbrev n_is_reduced : List Str := ["loom"]
theorem s_is_reduced : FnScope n_is_reduced ["loom"] (defScope (top 41)) := ⟨rfl, rfl, rfl, by decide +kernel, rfl, by decide +kernel, by decide +kernel⟩
theorem E81.f_is_reduced (c : E81 w K mg base) : FunD K "is_reduced" "is_reduced" (defArgs (top 41)) (defBody (top 41)) (defScope (top 41)) [] [] (ga K "is_reduced") (fdOf K ("is_reduced", none)) := c.says.fun_ 19
theorem E81.b_is_reduced (c : E81 w K mg base) : Binds K (fdOf K ("is_reduced", none)) ["loom"] [] := c.f_is_reduced.bindsN fun _ _ _ _ _ _ us hl => match us, hl with | [_], _ => rfl
theorem E81.g_is_reduced (c : E81 w K mg base) : mg "is_reduced" = some (.ref (ga K "is_reduced")) := He.glo_ok c.kin c.ns (c.says.t.d.fact 19)
/-- 0 loom, 1 treadling, 2 letters, 3 letter -/
abbrev n_led_treadling : List Str := ["loom", "treadling", "letters", "letter"]
theorem s_led_treadling : FnScope n_led_treadling ["loom", "treadling"] (defScope (top 42)) := ⟨rfl, rfl, rfl, by decide +kernel, rfl, by decide +kernel, by decide +kernel⟩
theorem E81.f_led_treadling (c : E81 w K mg base) : FunD K "led_treadling" "led_treadling" (defArgs (top 42)) (defBody (top 42)) (defScope (top 42)) [] [] (ga K "led_treadling") (fdOf K ("led_treadling", none)) := c.says.fun_ 20
theorem E81.b_led_treadling (c : E81 w K mg base) : Binds K (fdOf K ("led_treadling", none)) ["loom", "treadling"] [] := c.f_led_treadling.bindsN fun _ _ _ _ _ _ us hl => match us, hl with | [_, _], _ => rfl
theorem E81.g_led_treadling (c : E81 w K mg base) : mg "led_treadling" = some (.ref (ga K "led_treadling")) := He.glo_ok c.kin c.ns (c.says.t.d.fact 20)
/-- 0 _law_script, 1 _law_cells, 2 _law_mixed, 3 _law_cell -/
abbrev n__law_deck : List Str := ["_law_script", "_law_cells", "_law_mixed", "_law_cell"]
theorem s__law_deck : FnScope n__law_deck ["_law_script"] (defScope (top 44)) := ⟨rfl, rfl, rfl, by decide +kernel, rfl, by decide +kernel, by decide +kernel⟩
theorem E81.f__law_deck (c : E81 w K mg base) : FunD K "_law_deck" "_law_deck" (defArgs (top 44)) (defBody (top 44)) (defScope (top 44)) [] [] (ga K "_law_deck") (fdOf K ("_law_deck", none)) := c.says.fun_ 21
theorem E81.b__law_deck (c : E81 w K mg base) : Binds K (fdOf K ("_law_deck", none)) ["_law_script"] [] := c.f__law_deck.bindsN fun _ _ _ _ _ _ us hl => match us, hl with | [_], _ => rfl
theorem E81.g__law_deck (c : E81 w K mg base) : mg "_law_deck" = some (.ref (ga K "_law_deck")) := He.glo_ok c.kin c.ns (c.says.t.d.fact 21)
/-- 0 _law_deck_here, 1 _law_below, 2 _law_turn_now, 3 _law_figure, 4 _law_cell -/
abbrev n__law_draw : List Str := ["_law_deck_here", "_law_below", "_law_turn_now", "_law_figure", "_law_cell"]
theorem s__law_draw : FnScope n__law_draw ["_law_deck_here", "_law_below"] (defScope (top 45)) := ⟨rfl, rfl, rfl, by decide +kernel, rfl, by decide +kernel, by decide +kernel⟩
theorem E81.f__law_draw (c : E81 w K mg base) : FunD K "_law_draw" "_law_draw" (defArgs (top 45)) (defBody (top 45)) (defScope (top 45)) [] [] (ga K "_law_draw") (fdOf K ("_law_draw", none)) := c.says.fun_ 22
theorem E81.b__law_draw (c : E81 w K mg base) : Binds K (fdOf K ("_law_draw", none)) ["_law_deck_here", "_law_below"] [] := c.f__law_draw.bindsN fun _ _ _ _ _ _ us hl => match us, hl with | [_, _], _ => rfl
theorem E81.g__law_draw (c : E81 w K mg base) : mg "_law_draw" = some (.ref (ga K "_law_draw")) := He.glo_ok c.kin c.ns (c.says.t.d.fact 22)
/-- 0 _law_deck_here, 1 _law_some -/
abbrev n__law_pick : List Str := ["_law_deck_here", "_law_some"]
theorem s__law_pick : FnScope n__law_pick ["_law_deck_here", "_law_some"] (defScope (top 46)) := ⟨rfl, rfl, rfl, by decide +kernel, rfl, by decide +kernel, by decide +kernel⟩
theorem E81.f__law_pick (c : E81 w K mg base) : FunD K "_law_pick" "_law_pick" (defArgs (top 46)) (defBody (top 46)) (defScope (top 46)) [] [] (ga K "_law_pick") (fdOf K ("_law_pick", none)) := c.says.fun_ 23
theorem E81.b__law_pick (c : E81 w K mg base) : Binds K (fdOf K ("_law_pick", none)) ["_law_deck_here", "_law_some"] [] := c.f__law_pick.bindsN fun _ _ _ _ _ _ us hl => match us, hl with | [_, _], _ => rfl
theorem E81.g__law_pick (c : E81 w K mg base) : mg "_law_pick" = some (.ref (ga K "_law_pick")) := He.glo_ok c.kin c.ns (c.says.t.d.fact 23)
/-- 0 _law_deck_here, 1 _law_signs, 2 _law_many, 3 _law_k -/
abbrev n__law_word : List Str := ["_law_deck_here", "_law_signs", "_law_many", "_law_k"]
theorem s__law_word : FnScope n__law_word ["_law_deck_here", "_law_signs", "_law_many"] (defScope (top 47)) := ⟨rfl, rfl, rfl, by decide +kernel, rfl, by decide +kernel, by decide +kernel⟩
theorem E81.f__law_word (c : E81 w K mg base) : FunD K "_law_word" "_law_word" (defArgs (top 47)) (defBody (top 47)) (defScope (top 47)) [] [] (ga K "_law_word") (fdOf K ("_law_word", none)) := c.says.fun_ 24
theorem E81.b__law_word (c : E81 w K mg base) : Binds K (fdOf K ("_law_word", none)) ["_law_deck_here", "_law_signs", "_law_many"] [] := c.f__law_word.bindsN fun _ _ _ _ _ _ us hl => match us, hl with | [_, _, _], _ => rfl
theorem E81.g__law_word (c : E81 w K mg base) : mg "_law_word" = some (.ref (ga K "_law_word")) := He.glo_ok c.kin c.ns (c.says.t.d.fact 24)
/-- 0 _law_deck_here, 1 _law_shafts_now, 2 _law_many, 3 _law_ends_now, 4 _law_k, 5 _law_lifts_now, 6 _law_lift, 7 _law_n -/
abbrev n__law_loom : List Str := ["_law_deck_here", "_law_shafts_now", "_law_many", "_law_ends_now", "_law_k", "_law_lifts_now", "_law_lift", "_law_n"]
theorem s__law_loom : FnScope n__law_loom ["_law_deck_here"] (defScope (top 48)) := ⟨rfl, rfl, rfl, by decide +kernel, rfl, by decide +kernel, by decide +kernel⟩
theorem E81.f__law_loom (c : E81 w K mg base) : FunD K "_law_loom" "_law_loom" (defArgs (top 48)) (defBody (top 48)) (defScope (top 48)) [] [] (ga K "_law_loom") (fdOf K ("_law_loom", none)) := c.says.fun_ 25
theorem E81.b__law_loom (c : E81 w K mg base) : Binds K (fdOf K ("_law_loom", none)) ["_law_deck_here"] [] := c.f__law_loom.bindsN fun _ _ _ _ _ _ us hl => match us, hl with | [_], _ => rfl
theorem E81.g__law_loom (c : E81 w K mg base) : mg "_law_loom" = some (.ref (ga K "_law_loom")) := He.glo_ok c.kin c.ns (c.says.t.d.fact 25)
/-- 0 _law_w, 1 _law_text_now, 2 _law_found, 3 _law_sign, 4 _law_up_now, 5 _law_shaft -/
abbrev n__law_woven : List Str := ["_law_w", "_law_text_now", "_law_found", "_law_sign", "_law_up_now", "_law_shaft"]
theorem s__law_woven : FnScope n__law_woven ["_law_w", "_law_text_now"] (defScope (top 49)) := ⟨rfl, rfl, rfl, by decide +kernel, rfl, by decide +kernel, by decide +kernel⟩
theorem E81.f__law_woven (c : E81 w K mg base) : FunD K "_law_woven" "_law_woven" (defArgs (top 49)) (defBody (top 49)) (defScope (top 49)) [] [] (ga K "_law_woven") (fdOf K ("_law_woven", none)) := c.says.fun_ 26
theorem E81.b__law_woven (c : E81 w K mg base) : Binds K (fdOf K ("_law_woven", none)) ["_law_w", "_law_text_now"] [] := c.f__law_woven.bindsN fun _ _ _ _ _ _ us hl => match us, hl with | [_, _], _ => rfl
theorem E81.g__law_woven (c : E81 w K mg base) : mg "_law_woven" = some (.ref (ga K "_law_woven")) := He.glo_ok c.kin c.ns (c.says.t.d.fact 26)
/-- 0 _law_deck_here, 1 _law_it, 2 _law_deep, 3 _law_at, 4 _law_way, 5 _law_some, 6 _law_odd -/
abbrev n__law_bent : List Str := ["_law_deck_here", "_law_it", "_law_deep", "_law_at", "_law_way", "_law_some", "_law_odd"]
theorem s__law_bent : FnScope n__law_bent ["_law_deck_here", "_law_it", "_law_deep"] (defScope (top 50)) := ⟨rfl, rfl, rfl, by decide +kernel, rfl, by decide +kernel, by decide +kernel⟩
theorem E81.f__law_bent (c : E81 w K mg base) : FunD K "_law_bent" "_law_bent" (defArgs (top 50)) (defBody (top 50)) (defScope (top 50)) [] [] (ga K "_law_bent") (fdOf K ("_law_bent", none)) := c.says.fun_ 27
theorem E81.b__law_bent (c : E81 w K mg base) : Binds K (fdOf K ("_law_bent", none)) ["_law_deck_here", "_law_it", "_law_deep"] [] := c.f__law_bent.bindsN fun _ _ _ _ _ _ us hl => match us, hl with | [_, _, _], _ => rfl
theorem E81.g__law_bent (c : E81 w K mg base) : mg "_law_bent" = some (.ref (ga K "_law_bent")) := He.glo_ok c.kin c.ns (c.says.t.d.fact 27)
/-- 0 _law_w, 1 _law_used_now, 2 _law_known, 3 _law_ends_now, 4 _law_shaft, 5 _law_key, 6 _law_lift, 7 _law_kinds, 8 _law_led_here, 9 _law_signs, 10 _law_lifts_now, 11 _law_n -/
abbrev n__law_reduced : List Str := ["_law_w", "_law_used_now", "_law_known", "_law_ends_now", "_law_shaft", "_law_key", "_law_lift", "_law_kinds", "_law_led_here", "_law_signs", "_law_lifts_now", "_law_n"]
theorem s__law_reduced : FnScope n__law_reduced ["_law_w"] (defScope (top 51)) := ⟨rfl, rfl, rfl, by decide +kernel, rfl, by decide +kernel, by decide +kernel⟩
theorem E81.f__law_reduced (c : E81 w K mg base) : FunD K "_law_reduced" "_law_reduced" (defArgs (top 51)) (defBody (top 51)) (defScope (top 51)) [] [] (ga K "_law_reduced") (fdOf K ("_law_reduced", none)) := c.says.fun_ 28
theorem E81.b__law_reduced (c : E81 w K mg base) : Binds K (fdOf K ("_law_reduced", none)) ["_law_w"] [] := c.f__law_reduced.bindsN fun _ _ _ _ _ _ us hl => match us, hl with | [_], _ => rfl
theorem E81.g__law_reduced (c : E81 w K mg base) : mg "_law_reduced" = some (.ref (ga K "_law_reduced")) := He.glo_ok c.kin c.ns (c.says.t.d.fact 28)
/-- 0 _law_w -/
abbrev n__law_code : List Str := ["_law_w"]
theorem s__law_code : FnScope n__law_code ["_law_w"] (defScope (top 52)) := ⟨rfl, rfl, rfl, by decide +kernel, rfl, by decide +kernel, by decide +kernel⟩
theorem E81.f__law_code (c : E81 w K mg base) : FunD K "_law_code" "_law_code" (defArgs (top 52)) (defBody (top 52)) (defScope (top 52)) [] [] (ga K "_law_code") (fdOf K ("_law_code", none)) := c.says.fun_ 29
theorem E81.b__law_code (c : E81 w K mg base) : Binds K (fdOf K ("_law_code", none)) ["_law_w"] [] := c.f__law_code.bindsN fun _ _ _ _ _ _ us hl => match us, hl with | [_], _ => rfl
theorem E81.g__law_code (c : E81 w K mg base) : mg "_law_code" = some (.ref (ga K "_law_code")) := He.glo_ok c.kin c.ns (c.says.t.d.fact 29)
/-- 0 _law_deck_here, 1 _law_w, 2 _law_most_now, 3 _law_signs -/
abbrev n__law_text : List Str := ["_law_deck_here", "_law_w", "_law_most_now", "_law_signs"]
theorem s__law_text : FnScope n__law_text ["_law_deck_here", "_law_w", "_law_most_now"] (defScope (top 53)) := ⟨rfl, rfl, rfl, by decide +kernel, rfl, by decide +kernel, by decide +kernel⟩
theorem E81.f__law_text (c : E81 w K mg base) : FunD K "_law_text" "_law_text" (defArgs (top 53)) (defBody (top 53)) (defScope (top 53)) [] [] (ga K "_law_text") (fdOf K ("_law_text", none)) := c.says.fun_ 30
theorem E81.b__law_text (c : E81 w K mg base) : Binds K (fdOf K ("_law_text", none)) ["_law_deck_here", "_law_w", "_law_most_now"] [] := c.f__law_text.bindsN fun _ _ _ _ _ _ us hl => match us, hl with | [_, _, _], _ => rfl
theorem E81.g__law_text (c : E81 w K mg base) : mg "_law_text" = some (.ref (ga K "_law_text")) := He.glo_ok c.kin c.ns (c.says.t.d.fact 30)
/-- 0 _law_w, 1 _law_it, 2 _law_by_name, 3 _law_found, 4 e -/
abbrev n__law_led : List Str := ["_law_w", "_law_it", "_law_by_name", "_law_found", "e"]
theorem s__law_led : FnScope n__law_led ["_law_w", "_law_it", "_law_by_name"] (defScope (top 54)) := ⟨rfl, rfl, rfl, by decide +kernel, rfl, by decide +kernel, by decide +kernel⟩
theorem E81.f__law_led (c : E81 w K mg base) : FunD K "_law_led" "_law_led" (defArgs (top 54)) (defBody (top 54)) (defScope (top 54)) [] [] (ga K "_law_led") (fdOf K ("_law_led", none)) := c.says.fun_ 31
theorem E81.b__law_led (c : E81 w K mg base) : Binds K (fdOf K ("_law_led", none)) ["_law_w", "_law_it", "_law_by_name"] [] := c.f__law_led.bindsN fun _ _ _ _ _ _ us hl => match us, hl with | [_, _, _], _ => rfl
theorem E81.g__law_led (c : E81 w K mg base) : mg "_law_led" = some (.ref (ga K "_law_led")) := He.glo_ok c.kin c.ns (c.says.t.d.fact 31)
/-- 0 _law_w, 1 _law_code_here, 2 _law_due, 3 _law_mate, 4 _law_it, 5 _law_is_same -/
abbrev n__law_loom_right : List Str := ["_law_w", "_law_code_here", "_law_due", "_law_mate", "_law_it", "_law_is_same"]
theorem s__law_loom_right : FnScope n__law_loom_right ["_law_w", "_law_code_here"] (defScope (top 55)) := ⟨rfl, rfl, rfl, by decide +kernel, rfl, by decide +kernel, by decide +kernel⟩
theorem E81.f__law_loom_right (c : E81 w K mg base) : FunD K "_law_loom_right" "_law_loom_right" (defArgs (top 55)) (defBody (top 55)) (defScope (top 55)) [] [] (ga K "_law_loom_right") (fdOf K ("_law_loom_right", none)) := c.says.fun_ 32
theorem E81.b__law_loom_right (c : E81 w K mg base) : Binds K (fdOf K ("_law_loom_right", none)) ["_law_w", "_law_code_here"] [] := c.f__law_loom_right.bindsN fun _ _ _ _ _ _ us hl => match us, hl with | [_, _], _ => rfl
theorem E81.g__law_loom_right (c : E81 w K mg base) : mg "_law_loom_right" = some (.ref (ga K "_law_loom_right")) := He.glo_ok c.kin c.ns (c.says.t.d.fact 32)
/-- 0 _law_deck_here, 1 _law_w, 2 _law_code_here, 3 _law_far, 4 _law_signs, 5 _law_mate, 6 _law_letters_now, 7 _law_some, 8 _law_go, 9 _law_k, 10 _law_it, 11 _law_was, 12 _law_due, 13 _law_sign, 14 _law_told, 15 _law_whole_now -/
abbrev n__law_letters_right : List Str := ["_law_deck_here", "_law_w", "_law_code_here", "_law_far", "_law_signs", "_law_mate", "_law_letters_now", "_law_some", "_law_go", "_law_k", "_law_it", "_law_was", "_law_due", "_law_sign", "_law_told", "_law_whole_now"]
theorem s__law_letters_right : FnScope n__law_letters_right ["_law_deck_here", "_law_w", "_law_code_here"] (defScope (top 56)) := ⟨rfl, rfl, rfl, by decide +kernel, rfl, by decide +kernel, by decide +kernel⟩
theorem E81.f__law_letters_right (c : E81 w K mg base) : FunD K "_law_letters_right" "_law_letters_right" (defArgs (top 56)) (defBody (top 56)) (defScope (top 56)) [] [] (ga K "_law_letters_right") (fdOf K ("_law_letters_right", none)) := c.says.fun_ 33
theorem E81.b__law_letters_right (c : E81 w K mg base) : Binds K (fdOf K ("_law_letters_right", none)) ["_law_deck_here", "_law_w", "_law_code_here"] [] := c.f__law_letters_right.bindsN fun _ _ _ _ _ _ us hl => match us, hl with | [_, _, _], _ => rfl
theorem E81.g__law_letters_right (c : E81 w K mg base) : mg "_law_letters_right" = some (.ref (ga K "_law_letters_right")) := He.glo_ok c.kin c.ns (c.says.t.d.fact 33)
/-- 0 _law_near, 1 _law_far, 2 _law_found, 3 _law_k, 4 _law_j, 5 _law_seen_now, 6 _law_rows_now, 7 _law_is_there -/
abbrev n__law_first : List Str := ["_law_near", "_law_far", "_law_found", "_law_k", "_law_j", "_law_seen_now", "_law_rows_now", "_law_is_there"]
theorem s__law_first : FnScope n__law_first ["_law_near", "_law_far"] (defScope (top 57)) := ⟨rfl, rfl, rfl, by decide +kernel, rfl, by decide +kernel, by decide +kernel⟩
theorem E81.f__law_first (c : E81 w K mg base) : FunD K "_law_first" "_law_first" (defArgs (top 57)) (defBody (top 57)) (defScope (top 57)) [] [] (ga K "_law_first") (fdOf K ("_law_first", none)) := c.says.fun_ 34
theorem E81.b__law_first (c : E81 w K mg base) : Binds K (fdOf K ("_law_first", none)) ["_law_near", "_law_far"] [] := c.f__law_first.bindsN fun _ _ _ _ _ _ us hl => match us, hl with | [_, _], _ => rfl
theorem E81.g__law_first (c : E81 w K mg base) : mg "_law_first" = some (.ref (ga K "_law_first")) := He.glo_ok c.kin c.ns (c.says.t.d.fact 34)
/-- 0 _law_deck_here, 1 _law_w, 2 _law_text_now, 3 _law_way, 4 _law_v, 5 _law_at, 6 _law_lift, 7 _law_n -/
abbrev n__law_changed : List Str := ["_law_deck_here", "_law_w", "_law_text_now", "_law_way", "_law_v", "_law_at", "_law_lift", "_law_n"]
theorem s__law_changed : FnScope n__law_changed ["_law_deck_here", "_law_w", "_law_text_now"] (defScope (top 58)) := ⟨rfl, rfl, rfl, by decide +kernel, rfl, by decide +kernel, by decide +kernel⟩
theorem E81.f__law_changed (c : E81 w K mg base) : FunD K "_law_changed" "_law_changed" (defArgs (top 58)) (defBody (top 58)) (defScope (top 58)) [] [] (ga K "_law_changed") (fdOf K ("_law_changed", none)) := c.says.fun_ 35
theorem E81.b__law_changed (c : E81 w K mg base) : Binds K (fdOf K ("_law_changed", none)) ["_law_deck_here", "_law_w", "_law_text_now"] [] := c.f__law_changed.bindsN fun _ _ _ _ _ _ us hl => match us, hl with | [_, _, _], _ => rfl
theorem E81.g__law_changed (c : E81 w K mg base) : mg "_law_changed" = some (.ref (ga K "_law_changed")) := He.glo_ok c.kin c.ns (c.says.t.d.fact 35)
/-- 0 _law_deck_here, 1 _law_w, 2 _law_text_now, 3 _law_far, 4 _law_some, 5 _law_k, 6 _law_v, 7 _law_page, 8 _law_due, 9 _law_near, 10 _law_mate, 11 _law_told -/
abbrev n__law_crossing_right : List Str := ["_law_deck_here", "_law_w", "_law_text_now", "_law_far", "_law_some", "_law_k", "_law_v", "_law_page", "_law_due", "_law_near", "_law_mate", "_law_told"]
theorem s__law_crossing_right : FnScope n__law_crossing_right ["_law_deck_here", "_law_w"] (defScope (top 59)) := ⟨rfl, rfl, rfl, by decide +kernel, rfl, by decide +kernel, by decide +kernel⟩
theorem E81.f__law_crossing_right (c : E81 w K mg base) : FunD K "_law_crossing_right" "_law_crossing_right" (defArgs (top 59)) (defBody (top 59)) (defScope (top 59)) [] [] (ga K "_law_crossing_right") (fdOf K ("_law_crossing_right", none)) := c.says.fun_ 36
theorem E81.b__law_crossing_right (c : E81 w K mg base) : Binds K (fdOf K ("_law_crossing_right", none)) ["_law_deck_here", "_law_w"] [] := c.f__law_crossing_right.bindsN fun _ _ _ _ _ _ us hl => match us, hl with | [_, _], _ => rfl
theorem E81.g__law_crossing_right (c : E81 w K mg base) : mg "_law_crossing_right" = some (.ref (ga K "_law_crossing_right")) := He.glo_ok c.kin c.ns (c.says.t.d.fact 36)
/-- 0 _law_script, 1 _law_deck_here, 2 _law_go, 3 _law_w, 4 _law_code_here, 5 _law_it -/
abbrev n_law : List Str := ["_law_script", "_law_deck_here", "_law_go", "_law_w", "_law_code_here", "_law_it"]
theorem s_law : FnScope n_law ["_law_script"] (defScope (top 60)) := ⟨rfl, rfl, rfl, by decide +kernel, rfl, by decide +kernel, by decide +kernel⟩
theorem E81.f_law (c : E81 w K mg base) : FunD K "law" "law" (defArgs (top 60)) (defBody (top 60)) (defScope (top 60)) [] [] (ga K "law") (fdOf K ("law", none)) := c.says.fun_ 37
theorem E81.b_law (c : E81 w K mg base) : Binds K (fdOf K ("law", none)) ["_law_script"] [] := c.f_law.bindsN fun _ _ _ _ _ _ us hl => match us, hl with | [_], _ => rfl
theorem E81.g_law (c : E81 w K mg base) : mg "law" = some (.ref (ga K "law")) := He.glo_ok c.kin c.ns (c.says.t.d.fact 37)
/-- 0 self, 1 shafts, 2 threading, 3 lifts, 4 shaft, 5 number, 6 lift -/
abbrev n_Loom_init : List Str := ["self", "shafts", "threading", "lifts", "shaft", "number", "lift"]
theorem s_Loom_init : FnScope n_Loom_init ["self", "shafts", "threading", "lifts"] (defScope (me 18 0)) := ⟨rfl, rfl, rfl, by decide +kernel, rfl, by decide +kernel, by decide +kernel⟩
theorem E81.f_Loom_init (c : E81 w K mg base) : FunD K "__init__" "Loom.__init__" (defArgs (me 18 0)) (defBody (me 18 0)) (defScope (me 18 0)) [] [] (ma K (ga K "Loom") "__init__") (fdOf K ("Loom", some "__init__")) := c.says.fun_ 38
theorem E81.b_Loom_init (c : E81 w K mg base) : Binds K (fdOf K ("Loom", some "__init__")) ["self", "shafts", "threading", "lifts"] [] := c.f_Loom_init.bindsN fun _ _ _ _ _ _ us hl => match us, hl with | [_, _, _, _], _ => rfl
/-- 0 self -/
abbrev n_Loom_len : List Str := ["self"]
theorem s_Loom_len : FnScope n_Loom_len ["self"] (defScope (me 18 3)) := ⟨rfl, rfl, rfl, by decide +kernel, rfl, by decide +kernel, by decide +kernel⟩
theorem E81.f_Loom_len (c : E81 w K mg base) : FunD K "__len__" "Loom.__len__" (defArgs (me 18 3)) (defBody (me 18 3)) (defScope (me 18 3)) [] [] (ma K (ga K "Loom") "__len__") (fdOf K ("Loom", some "__len__")) := c.says.fun_ 39
theorem E81.b_Loom_len (c : E81 w K mg base) : Binds K (fdOf K ("Loom", some "__len__")) ["self"] [] := c.f_Loom_len.bindsN fun _ _ _ _ _ _ us hl => match us, hl with | [_], _ => rfl
/-- 0 self, 1 other -/
abbrev n_Loom_eq : List Str := ["self", "other"]
theorem s_Loom_eq : FnScope n_Loom_eq ["self", "other"] (defScope (me 18 4)) := ⟨rfl, rfl, rfl, by decide +kernel, rfl, by decide +kernel, by decide +kernel⟩
theorem E81.f_Loom_eq (c : E81 w K mg base) : FunD K "__eq__" "Loom.__eq__" (defArgs (me 18 4)) (defBody (me 18 4)) (defScope (me 18 4)) [] [] (ma K (ga K "Loom") "__eq__") (fdOf K ("Loom", some "__eq__")) := c.says.fun_ 40
theorem E81.b_Loom_eq (c : E81 w K mg base) : Binds K (fdOf K ("Loom", some "__eq__")) ["self", "other"] [] := c.f_Loom_eq.bindsN fun _ _ _ _ _ _ us hl => match us, hl with | [_, _], _ => rfl
/-- 0 self, 1 letter -/
abbrev n_Loom_lift_of : List Str := ["self", "letter"]
theorem s_Loom_lift_of : FnScope n_Loom_lift_of ["self", "letter"] (defScope (me 18 5)) := ⟨rfl, rfl, rfl, by decide +kernel, rfl, by decide +kernel, by decide +kernel⟩
theorem E81.f_Loom_lift_of (c : E81 w K mg base) : FunD K "lift_of" "Loom.lift_of" (defArgs (me 18 5)) (defBody (me 18 5)) (defScope (me 18 5)) [] [] (ma K (ga K "Loom") "lift_of") (fdOf K ("Loom", some "lift_of")) := c.says.fun_ 41
theorem E81.b_Loom_lift_of (c : E81 w K mg base) : Binds K (fdOf K ("Loom", some "lift_of")) ["self", "letter"] [] := c.f_Loom_lift_of.bindsN fun _ _ _ _ _ _ us hl => match us, hl with | [_, _], _ => rfl
/-- 0 self, 1 picks, 2 number, 3 pick -/
abbrev n_Cloth_init : List Str := ["self", "picks", "number", "pick"]
theorem s_Cloth_init : FnScope n_Cloth_init ["self", "picks"] (defScope (me 25 0)) := ⟨rfl, rfl, rfl, by decide +kernel, rfl, by decide +kernel, by decide +kernel⟩
theorem E81.f_Cloth_init (c : E81 w K mg base) : FunD K "__init__" "Cloth.__init__" (defArgs (me 25 0)) (defBody (me 25 0)) (defScope (me 25 0)) [] [] (ma K (ga K "Cloth") "__init__") (fdOf K ("Cloth", some "__init__")) := c.says.fun_ 42
theorem E81.b_Cloth_init (c : E81 w K mg base) : Binds K (fdOf K ("Cloth", some "__init__")) ["self", "picks"] [] := c.f_Cloth_init.bindsN fun _ _ _ _ _ _ us hl => match us, hl with | [_, _], _ => rfl
/-- 0 self -/
abbrev n_Cloth_len : List Str := ["self"]
theorem s_Cloth_len : FnScope n_Cloth_len ["self"] (defScope (me 25 3)) := ⟨rfl, rfl, rfl, by decide +kernel, rfl, by decide +kernel, by decide +kernel⟩
theorem E81.f_Cloth_len (c : E81 w K mg base) : FunD K "__len__" "Cloth.__len__" (defArgs (me 25 3)) (defBody (me 25 3)) (defScope (me 25 3)) [] [] (ma K (ga K "Cloth") "__len__") (fdOf K ("Cloth", some "__len__")) := c.says.fun_ 43
theorem E81.b_Cloth_len (c : E81 w K mg base) : Binds K (fdOf K ("Cloth", some "__len__")) ["self"] [] := c.f_Cloth_len.bindsN fun _ _ _ _ _ _ us hl => match us, hl with | [_], _ => rfl
/-- 0 self, 1 other -/
abbrev n_Cloth_eq : List Str := ["self", "other"]
theorem s_Cloth_eq : FnScope n_Cloth_eq ["self", "other"] (defScope (me 25 4)) := ⟨rfl, rfl, rfl, by decide +kernel, rfl, by decide +kernel, by decide +kernel⟩
theorem E81.f_Cloth_eq (c : E81 w K mg base) : FunD K "__eq__" "Cloth.__eq__" (defArgs (me 25 4)) (defBody (me 25 4)) (defScope (me 25 4)) [] [] (ma K (ga K "Cloth") "__eq__") (fdOf K ("Cloth", some "__eq__")) := c.says.fun_ 44
theorem E81.b_Cloth_eq (c : E81 w K mg base) : Binds K (fdOf K ("Cloth", some "__eq__")) ["self", "other"] [] := c.f_Cloth_eq.bindsN fun _ _ _ _ _ _ us hl => match us, hl with | [_, _], _ => rfl
theorem E81.g_Loom (c : E81 w K mg base) : mg "Loom" = some (.ref (ga K "Loom")) := He.glo_ok c.kin c.ns (c.says.t.d.fact 38)
theorem E81.g_Cloth (c : E81 w K mg base) : mg "Cloth" = some (.ref (ga K "Cloth")) := He.glo_ok c.kin c.ns (c.says.t.d.fact 39)
theorem E81.g_BadTreadling (c : E81 w K mg base) : mg "BadTreadling" = some (.ref (ga K "BadTreadling")) := He.glo_ok c.kin c.ns (c.says.t.d.fact 40)
theorem E81.g_LoomError (c : E81 w K mg base) : mg "LoomError" = some (.ref (ga K "LoomError")) := He.glo_ok c.kin c.ns (c.says.t.d.fact 41)
theorem E81.g_OTHER (c : E81 w K mg base) : mg "OTHER" = some (.ref (ga K "OTHER")) := He.glo_ok c.kin c.ns (c.says.t.d.fact 42)
theorem E81.n_isinstance (c : E81 w K mg base) : mg "isinstance" = none := He.free_ok c.kin c.ns (c.says.t.d.fact 43)
theorem E81.n_int (c : E81 w K mg base) : mg "int" = none := He.free_ok c.kin c.ns (c.says.t.d.fact 44)
theorem E81.n_bool (c : E81 w K mg base) : mg "bool" = none := He.free_ok c.kin c.ns (c.says.t.d.fact 45)
theorem E81.n_tuple (c : E81 w K mg base) : mg "tuple" = none := He.free_ok c.kin c.ns (c.says.t.d.fact 46)
theorem E81.n_str (c : E81 w K mg base) : mg "str" = none := He.free_ok c.kin c.ns (c.says.t.d.fact 47)
theorem E81.n_list (c : E81 w K mg base) : mg "list" = none := He.free_ok c.kin c.ns (c.says.t.d.fact 48)
theorem E81.n_dict (c : E81 w K mg base) : mg "dict" = none := He.free_ok c.kin c.ns (c.says.t.d.fact 49)
theorem E81.n_len (c : E81 w K mg base) : mg "len" = none := He.free_ok c.kin c.ns (c.says.t.d.fact 50)
theorem E81.n_range (c : E81 w K mg base) : mg "range" = none := He.free_ok c.kin c.ns (c.says.t.d.fact 51)
theorem E81.n_zip (c : E81 w K mg base) : mg "zip" = none := He.free_ok c.kin c.ns (c.says.t.d.fact 52)
theorem E81.n_enumerate (c : E81 w K mg base) : mg "enumerate" = none := He.free_ok c.kin c.ns (c.says.t.d.fact 53)
theorem E81.n_sorted (c : E81 w K mg base) : mg "sorted" = none := He.free_ok c.kin c.ns (c.says.t.d.fact 54)
theorem E81.n_set (c : E81 w K mg base) : mg "set" = none := He.free_ok c.kin c.ns (c.says.t.d.fact 55)
theorem E81.n_all (c : E81 w K mg base) : mg "all" = none := He.free_ok c.kin c.ns (c.says.t.d.fact 56)
theorem E81.n_max (c : E81 w K mg base) : mg "max" = none := He.free_ok c.kin c.ns (c.says.t.d.fact 57)
theorem E81.n_min (c : E81 w K mg base) : mg "min" = none := He.free_ok c.kin c.ns (c.says.t.d.fact 58)
theorem E81.n_sum (c : E81 w K mg base) : mg "sum" = none := He.free_ok c.kin c.ns (c.says.t.d.fact 59)
theorem E81.n_repr (c : E81 w K mg base) : mg "repr" = none := He.free_ok c.kin c.ns (c.says.t.d.fact 60)
theorem E81.n_super (c : E81 w K mg base) : mg "super" = none := He.free_ok c.kin c.ns (c.says.t.d.fact 61)
theorem E81.v_TREADLES (c : E81 w K mg base) : ∃ t, mg "TREADLES" = some (.str "abcdefghijklmnopqrstuvwxyz" t) := He.str_ok c.kin c.ns (c.says.t.d.fact 62)
theorem E81.v_LETTERS (c : E81 w K mg base) : ∃ t, mg "LETTERS" = some (.str "abcdefghijklmnopqrstuvwxyz" t) := He.str_ok c.kin c.ns (c.says.t.d.fact 63)
theorem E81.v_ABOVE (c : E81 w K mg base) : ∃ t, mg "ABOVE" = some (.str "x" t) := He.str_ok c.kin c.ns (c.says.t.d.fact 64)
theorem E81.v_BELOW (c : E81 w K mg base) : ∃ t, mg "BELOW" = some (.str "-" t) := He.str_ok c.kin c.ns (c.says.t.d.fact 65)
theorem E81.v_MOST (c : E81 w K mg base) : ∃ t, mg "MOST_SHAFTS" = some (.int 99 t) := He.int_ok c.kin c.ns (c.says.t.d.fact 66)
theorem E81.cls_Loom (c : E81 w K mg base) : Cls K (ga K "Loom") := He.cls_ok (c.says.t.d.fact 67)
theorem E81.cls_Cloth (c : E81 w K mg base) : Cls K (ga K "Cloth") := He.cls_ok (c.says.t.d.fact 68)
theorem E81.mk_Loom (c : E81 w K mg base) : Mk K (ga K "Loom") (ma K (ga K "Loom") "__init__") := He.mkr_ok (c.says.t.d.fact 69)
theorem E81.mk_Cloth (c : E81 w K mg base) : Mk K (ga K "Cloth") (ma K (ga K "Cloth") "__init__") := He.mkr_ok (c.says.t.d.fact 70)
theorem E81.meth_lift_of (c : E81 w K mg base) : Meth K (ga K "Loom") "lift_of" (ma K (ga K "Loom") "lift_of") := He.meth_ok (c.says.t.d.fact 71)
theorem E81.no_Loom_shafts (c : E81 w K mg base) : NoAttr K (ga K "Loom") "shafts" := He.noat_ok (c.says.t.d.fact 72)
theorem E81.no_Loom_threading (c : E81 w K mg base) : NoAttr K (ga K "Loom") "threading" := He.noat_ok (c.says.t.d.fact 73)
theorem E81.no_Loom_lifts (c : E81 w K mg base) : NoAttr K (ga K "Loom") "lifts" := He.noat_ok (c.says.t.d.fact 74)
theorem E81.no_Loom_letters (c : E81 w K mg base) : NoAttr K (ga K "Loom") "letters" := He.noat_ok (c.says.t.d.fact 75)
theorem E81.no_Loom_used (c : E81 w K mg base) : NoAttr K (ga K "Loom") "used" := He.noat_ok (c.says.t.d.fact 76)
theorem E81.no_Cloth_picks (c : E81 w K mg base) : NoAttr K (ga K "Cloth") "picks" := He.noat_ok (c.says.t.d.fact 77)
theorem E81.no_Cloth_ends (c : E81 w K mg base) : NoAttr K (ga K "Cloth") "ends" := He.noat_ok (c.says.t.d.fact 78)
theorem E81.exm_BadTreadling (c : E81 w K mg base) : PySem.W.exmOne K (.ref (ga K "BadTreadling")) (.ref (ga K "BadTreadling")) = some true := He.exm_ok (c.says.t.d.fact 79)
theorem E81.noLst (c : E81 w K mg base) : TL.noLst K = true := c.says.b 0
theorem E81.sys (c : E81 w K mg base) : ∃ o, base.get? sysModules = some o := by
  have h : sysB K = true := c.says.b 1
  obtain ⟨o, ho⟩ := Option.isSome_iff_exists.mp (show (K.lookup sysModules).isSome = true from h)
  exact ⟨o, c.kin _ _ ho⟩
theorem E81.is_Loom (c : E81 w K mg base) : IsC K (ga K "Loom") := by
  have h : isB "Loom" K = true := c.says.b 3
  obtain ⟨h1, h⟩ := an h
  obtain ⟨h2, h⟩ := an h
  obtain ⟨h3, h4⟩ := an h
  exact ⟨c.cls_Loom, optB_ok h1, optB_ok h2, optB_ok h3, optB_ok h4⟩
theorem E81.is_Cloth (c : E81 w K mg base) : IsC K (ga K "Cloth") := by
  have h : isB "Cloth" K = true := c.says.b 4
  obtain ⟨h1, h⟩ := an h
  obtain ⟨h2, h⟩ := an h
  obtain ⟨h3, h4⟩ := an h
  exact ⟨c.cls_Cloth, optB_ok h1, optB_ok h2, optB_ok h3, optB_ok h4⟩
theorem E81.kit_Loom (c : E81 w K mg base) : PySem.W.kitOne K (.ref (ga K "Loom")) (.ref (ga K "Loom")) = some true := optB_ok (show kitB2 "Loom" "Loom" K = true from c.says.b 5)
theorem E81.kit_Cloth (c : E81 w K mg base) : PySem.W.kitOne K (.ref (ga K "Cloth")) (.ref (ga K "Cloth")) = some true := optB_ok (show kitB2 "Cloth" "Cloth" K = true from c.says.b 6)
theorem E81.kit_BadTreadling (c : E81 w K mg base) : PySem.W.kitOne K (.ref (ga K "BadTreadling")) (.ref (ga K "LoomError")) = some true := optB_ok (show kitB2 "BadTreadling" "LoomError" K = true from c.says.b 7)
theorem E81.sp_Loom_len (c : E81 w K mg base) : PySem.W.findIn K (.ref (ga K "Loom")) "__len__" = some (some (.ref (ma K (ga K "Loom") "__len__"))) ∧ PySem.W.isFn K (.ref (ma K (ga K "Loom") "__len__")) = true := by
  obtain ⟨h1, h2⟩ := an (show specB "Loom" "__len__" K = true from c.says.b 8)
  exact ⟨optB_ok h1, h2⟩
theorem E81.sp_Loom_eq (c : E81 w K mg base) : PySem.W.findIn K (.ref (ga K "Loom")) "__eq__" = some (some (.ref (ma K (ga K "Loom") "__eq__"))) ∧ PySem.W.isFn K (.ref (ma K (ga K "Loom") "__eq__")) = true := by
  obtain ⟨h1, h2⟩ := an (show specB "Loom" "__eq__" K = true from c.says.b 9)
  exact ⟨optB_ok h1, h2⟩
theorem E81.sp_Cloth_len (c : E81 w K mg base) : PySem.W.findIn K (.ref (ga K "Cloth")) "__len__" = some (some (.ref (ma K (ga K "Cloth") "__len__"))) ∧ PySem.W.isFn K (.ref (ma K (ga K "Cloth") "__len__")) = true := by
  obtain ⟨h1, h2⟩ := an (show specB "Cloth" "__len__" K = true from c.says.b 10)
  exact ⟨optB_ok h1, h2⟩
theorem E81.sp_Cloth_eq (c : E81 w K mg base) : PySem.W.findIn K (.ref (ga K "Cloth")) "__eq__" = some (some (.ref (ma K (ga K "Cloth") "__eq__"))) ∧ PySem.W.isFn K (.ref (ma K (ga K "Cloth") "__eq__")) = true := by
  obtain ⟨h1, h2⟩ := an (show specB "Cloth" "__eq__" K = true from c.says.b 11)
  exact ⟨optB_ok h1, h2⟩
theorem E81.ne_Cloth (c : E81 w K mg base) : NeC K (ga K "Cloth") (ma K (ga K "Cloth") "__eq__") := by
  have h : neB "Cloth" K = true := c.says.b 12
  exact ⟨c.sp_Cloth_eq.1, c.sp_Cloth_eq.2, optB_ok h, c.is_Cloth.hm⟩
theorem E81.exc (c : E81 w K mg base) : L2.ExcC K (ga K "BadTreadling") ∧ L2.XfC K (ga K "BadTreadling") := by
  have h : excCB "BadTreadling" K = true := c.says.b 13
  obtain ⟨h0, h⟩ := an h
  have x := L2.xfB_ok h0
  obtain ⟨h1, h⟩ := an h
  obtain ⟨h2, h⟩ := an h
  obtain ⟨h3, h4⟩ := an h
  exact ⟨⟨x.ga, x.gg, x.exC, x.hdC, optB_ok h1, optB_ok h2, optB_ok h3, optB_ok h4⟩, x⟩
theorem E81.other (c : E81 w K mg base) : ∃ es n, KDict K w (ga K "OTHER") es n := c.says.t.tab 0
theorem E81.bad (c : E81 w K mg base) : ∃ fd, BadI PySem.Challenge.pw_loomhold_k81_reduced_looms_and_first_cro K (ga K "BadTreadling") (ma K (ga K "BadTreadling") "__init__") "thing" fd ∧ Binds K fd ["self", "thing"] [] := by
  obtain ⟨fd, B, kV, doc, pm, cda, cc, ct, an, e⟩ := bad_ok (P := PySem.Challenge.pw_loomhold_k81_reduced_looms_and_first_cro) (d := dBad) (c.says.bad 0) (c.says.b 2) rfl rfl rfl rfl rfl
  exact ⟨fd, B, .all fun us hl => by subst e; exact match us, hl with | [_, _], _ => rfl⟩
theorem E81.no_thing (c : E81 w K mg base) : PySem.W.findIn K (.ref (ga K "BadTreadling")) "thing" = some none := optB_ok (show noxB "BadTreadling" "thing" K = true from c.says.b 16)
end
end K81
end
section
set_option maxRecDepth 100000
set_option maxHeartbeats 2000000
/-! TV: comprehensions that write nothing. -/
namespace TL
open PySem PySem.Spec PyProof.Rows L2
section
variable {X : Cx} {scope : Scope} {elt c : Expr} {M : Mp} {Q : DQ} {bind : D → Option En}
theorem CompT.map {xs acc : List D} (f : D → D) (h : ∀ x ∈ xs, ∃ ρ1, bind x = some ρ1 ∧ ∀ s H C cl fp, WE (Blk X scope s H C cl fp) elt ρ1 M fun y' M' => y' = f x ∧ M' = M) (hl : acc.length + xs.length ≤ sizeLine) (q : Q (.lst (acc ++ xs.map f)) M) :
    CompT X scope elt [] bind Q xs acc M := by
  induction xs generalizing acc with
  | nil => simpa [CompT] using q
  | cons x xs ih =>
    obtain ⟨ρ1, e, w⟩ := h x (List.mem_cons_self ..)
    refine ⟨by simp at hl; omega, ρ1, e, fun b' M' => b' = true ∧ M' = M, fun s H C cl fp => .nil ⟨rfl, rfl⟩, fun _ z => (nomatch z.1), fun M1 z => ?_⟩
    obtain ⟨_, rfl⟩ := z
    refine ⟨_, w, fun y M2 hy => ?_⟩
    obtain ⟨rfl, rfl⟩ := hy
    exact ih (fun y hy => h y (List.mem_cons_of_mem _ hy)) (by simp at hl ⊢; omega) (by simpa using q)
theorem CompT.filter {xs acc : List D} (p : D → Bool) (f : D → D) (h : ∀ x ∈ xs, ∃ ρ1, bind x = some ρ1 ∧ (∀ s H C cl fp, WT (Blk X scope s H C cl fp) c ρ1 M fun b M' => b = p x ∧ M' = M) ∧ (p x = true → ∀ s H C cl fp, WE (Blk X scope s H C cl fp) elt ρ1 M fun y' M' => y' = f x ∧ M' = M))
    (hl : acc.length + xs.length ≤ sizeLine) (q : Q (.lst (acc ++ (xs.filter p).map f)) M) : CompT X scope elt [c] bind Q xs acc M := by
  induction xs generalizing acc with
  | nil => simpa [CompT] using q
  | cons x xs ih =>
    obtain ⟨ρ1, e, t, w⟩ := h x (List.mem_cons_self ..)
    have h' := fun y hy => h y (List.mem_cons_of_mem x hy)
    refine ⟨by simp at hl; omega, ρ1, e, fun b' M' => b' = p x ∧ M' = M, fun s H C cl fp => .one (t s H C cl fp), fun M1 z => ?_, fun M1 z => ?_⟩
    · obtain ⟨z, rfl⟩ := z
      exact ih h' (by simp at hl ⊢; omega) (by rw [List.filter_cons, ← z] at q; simpa using q)
    · obtain ⟨z, rfl⟩ := z
      refine ⟨_, w z.symm, fun y M2 hy => ?_⟩
      obtain ⟨rfl, rfl⟩ := hy
      exact ih h' (by simp at hl ⊢; omega) (by rw [List.filter_cons, ← z] at q; simpa using q)
/-- {k: v for ..} that writes nothing -/
theorem DCompT.map {kx vx : Expr} {Q : List (Key × D) → Mp → Prop} {xs : List D} {acc : List (Key × D)} (f : D → Key × D) (h : ∀ x ∈ xs, ∃ ρ1, bind x = some ρ1 ∧ (∀ s H C cl fp, WE (Blk X scope s H C cl fp) kx ρ1 M fun y' M' => y' = keyV (f x).1 ∧ M' = M) ∧ (∀ s H C cl fp, WE (Blk X scope s H C cl fp) vx ρ1 M fun y' M' => y' = (f x).2 ∧ M' = M))
    (hl : acc.length + xs.length ≤ sizeLine) (q : Q (mergeG acc (xs.map f)) M) : DCompT X scope kx vx [] bind Q xs acc M := by
  induction xs generalizing acc with
  | nil => simpa [DCompT, mergeG] using q
  | cons x xs ih =>
    obtain ⟨ρ1, e, wk, wv⟩ := h x (List.mem_cons_self ..)
    have hp : (putG acc (f x).1 (f x).2).length ≤ acc.length + 1 := by
      unfold putG
      split
      · simp
      · simp
    refine ⟨by simp at hl; omega, ρ1, true, M, e, fun s H C cl fp => .nil ⟨rfl, rfl⟩, fun z => (nomatch z), fun _ => ⟨(f x).1, M, (f x).2, M, wk, wv, ih (fun y hy => h y (List.mem_cons_of_mem _ hy)) (by simp at hl; omega) (by simpa [mergeG] using q)⟩⟩
end
/-! ### comprehensions with a target of one name, of two -/
section
variable {X : Cx} {scope : Scope} {elt kx vx iter : Expr} {ifs : List Expr} {ρ : En} {M : Mp} {Q : DQ} {own : List (Str × Nat)} {pos tpos q1 q2 : Pos} {n n2 : Str} {E : TEs} {kk : Nat}
abbrev bd1 (ρ : En) (own : List (Str × Nat)) (i : Nat) : D → Option En := fun x => some ((wipeE ρ (own.map (·.2))).set i (some x))
abbrev bd2 (ρ : En) (own : List (Str × Nat)) (i j : Nat) : D → Option En := fun x => match x with
  | .tup [a, b] => some (((wipeE ρ (own.map (·.2))).set i (some a)).set j (some b))
  | _ => none
theorem WE.lc1 (i : Nat) (own : List (Str × Nat)) (hc : X.calm = true) (hN : X.N.Nodup) (ok : BlkOk X.N X.env.scope scope own) (h : WI X (.Name n tpos) iter ρ M fun xs M1 => CompT X scope elt ifs (bd1 ρ own i) Q xs [] M1) (hi : X.N[i]? = some n := by rfl) (hm : i ∈ own.map (·.2) := by decide) (hx : ∀ (s : Shared) (H : Hp) (C : Addr) (cl : List (Str × Addr)) (fp : List Addr), Loc (Blk X scope s H C cl fp).env.scope n ∧ ((Blk X scope s H C cl fp).fn n = true ∨ (Blk X scope s H C cl fp).env.scope.names.lookup n = some .local) := by intro _ _ _ _ _; first | exact ⟨.inl rfl, .inr rfl⟩ | exact ⟨.inr rfl, .inl rfl⟩) (hs : ∀ x, foldedSetIterable iter X.env x = pure x := by intro _; rfl) : WE X (.ListComp elt [⟨.Name n tpos, iter, ifs, 0⟩] scope pos) ρ M Q :=
  WE.lc hc hN ok (bind_name hm) (fun s H C cl fp => pg_name hN hi (hx s H C cl fp).1 (hx s H C cl fp).2) h hs
theorem WE.lc2 (i j : Nat) (own : List (Str × Nat)) (hc : X.calm = true) (hN : X.N.Nodup) (ok : BlkOk X.N X.env.scope scope own) (h : WI X (.Tuple [.Name n q1, .Name n2 q2] kk tpos) iter ρ M fun xs M1 => CompT X scope elt ifs (bd2 ρ own i j) Q xs [] M1) (hi : X.N[i]? = some n := by rfl) (hj : X.N[j]? = some n2 := by rfl) (hm : i ∈ own.map (·.2) := by decide) (hm2 : j ∈ own.map (·.2) := by decide) (hx : ∀ (s : Shared) (H : Hp) (C : Addr) (cl : List (Str × Addr)) (fp : List Addr), Loc (Blk X scope s H C cl fp).env.scope n ∧ ((Blk X scope s H C cl fp).fn n = true ∨ (Blk X scope s H C cl fp).env.scope.names.lookup n = some .local) := by intro _ _ _ _ _; first | exact ⟨.inl rfl, .inr rfl⟩ | exact ⟨.inr rfl, .inl rfl⟩) (hx2 : ∀ (s : Shared) (H : Hp) (C : Addr) (cl : List (Str × Addr)) (fp : List Addr), Loc (Blk X scope s H C cl fp).env.scope n2 ∧ ((Blk X scope s H C cl fp).fn n2 = true ∨ (Blk X scope s H C cl fp).env.scope.names.lookup n2 = some .local) := by intro _ _ _ _ _; first | exact ⟨.inl rfl, .inr rfl⟩ | exact ⟨.inr rfl, .inl rfl⟩) (hs : ∀ x, foldedSetIterable iter X.env x = pure x := by intro _; rfl) : WE X (.ListComp elt [⟨.Tuple [.Name n q1, .Name n2 q2] kk tpos, iter, ifs, 0⟩] scope pos) ρ M Q :=
  WE.lc hc hN ok (bind_two hm hm2) (fun s H C cl fp => pg_tup hc (pgs_cons (pg_name hN hi (hx s H C cl fp).1 (hx s H C cl fp).2) (pgs_cons (pg_name hN hj (hx2 s H C cl fp).1 (hx2 s H C cl fp).2) pgs_nil))) h hs
theorem WS.setLc1 {m : Str} {mpos spos : Pos} (k : Nat) (i : Nat) (own : List (Str × Nat)) (hc : X.calm = true) (hN : X.N.Nodup) (ok : BlkOk X.N X.env.scope scope own) (h : WI X (.Name n tpos) iter ρ M fun xs M1 => CompT X scope elt ifs (bd1 ρ own i) (fun d M2 => E.nx (ρ.set k (some d)) M2) xs [] M1) (hi : X.N[i]? = some n := by rfl) (hm : i ∈ own.map (·.2) := by decide) (hx : ∀ (s : Shared) (H : Hp) (C : Addr) (cl : List (Str × Addr)) (fp : List Addr), Loc (Blk X scope s H C cl fp).env.scope n ∧ ((Blk X scope s H C cl fp).fn n = true ∨ (Blk X scope s H C cl fp).env.scope.names.lookup n = some .local) := by intro _ _ _ _ _; first | exact ⟨.inl rfl, .inr rfl⟩ | exact ⟨.inr rfl, .inl rfl⟩) (hk : X.N[k]? = some m := by rfl) (hl : X.env.scope.names.lookup m = some .local := by rfl) (hsw : swapsWith (.ListComp elt [⟨.Name n tpos, iter, ifs, 0⟩] scope pos) (some (.Name m mpos)) spos.line X.env = pure true := by rfl) (hs : ∀ x, foldedSetIterable iter X.env x = pure x := by intro _; rfl) : WS X (.Assign [.Name m mpos] (.ListComp elt [⟨.Name n tpos, iter, ifs, 0⟩] scope pos) spos) ρ M E :=
  WS.setLc k hc hN ok (bind_name hm) (fun s H C cl fp => pg_name hN hi (hx s H C cl fp).1 (hx s H C cl fp).2) h hk hl hsw hs
theorem WS.setLc2 {m : Str} {mpos spos : Pos} (k : Nat) (i j : Nat) (own : List (Str × Nat)) (hc : X.calm = true) (hN : X.N.Nodup) (ok : BlkOk X.N X.env.scope scope own) (h : WI X (.Tuple [.Name n q1, .Name n2 q2] kk tpos) iter ρ M fun xs M1 => CompT X scope elt ifs (bd2 ρ own i j) (fun d M2 => E.nx (ρ.set k (some d)) M2) xs [] M1) (hi : X.N[i]? = some n := by rfl) (hj : X.N[j]? = some n2 := by rfl) (hm : i ∈ own.map (·.2) := by decide) (hm2 : j ∈ own.map (·.2) := by decide) (hx : ∀ (s : Shared) (H : Hp) (C : Addr) (cl : List (Str × Addr)) (fp : List Addr), Loc (Blk X scope s H C cl fp).env.scope n ∧ ((Blk X scope s H C cl fp).fn n = true ∨ (Blk X scope s H C cl fp).env.scope.names.lookup n = some .local) := by intro _ _ _ _ _; first | exact ⟨.inl rfl, .inr rfl⟩ | exact ⟨.inr rfl, .inl rfl⟩) (hx2 : ∀ (s : Shared) (H : Hp) (C : Addr) (cl : List (Str × Addr)) (fp : List Addr), Loc (Blk X scope s H C cl fp).env.scope n2 ∧ ((Blk X scope s H C cl fp).fn n2 = true ∨ (Blk X scope s H C cl fp).env.scope.names.lookup n2 = some .local) := by intro _ _ _ _ _; first | exact ⟨.inl rfl, .inr rfl⟩ | exact ⟨.inr rfl, .inl rfl⟩) (hk : X.N[k]? = some m := by rfl) (hl : X.env.scope.names.lookup m = some .local := by rfl) (hsw : swapsWith (.ListComp elt [⟨.Tuple [.Name n q1, .Name n2 q2] kk tpos, iter, ifs, 0⟩] scope pos) (some (.Name m mpos)) spos.line X.env = pure true := by rfl) (hs : ∀ x, foldedSetIterable iter X.env x = pure x := by intro _; rfl) : WS X (.Assign [.Name m mpos] (.ListComp elt [⟨.Tuple [.Name n q1, .Name n2 q2] kk tpos, iter, ifs, 0⟩] scope pos) spos) ρ M E :=
  WS.setLc k hc hN ok (bind_two hm hm2) (fun s H C cl fp => pg_tup hc (pgs_cons (pg_name hN hi (hx s H C cl fp).1 (hx s H C cl fp).2) (pgs_cons (pg_name hN hj (hx2 s H C cl fp).1 (hx2 s H C cl fp).2) pgs_nil))) h hk hl hsw hs
theorem WE.dc1 (i : Nat) (own : List (Str × Nat)) (hc : X.calm = true) (hN : X.N.Nodup) (ok : BlkOk X.N X.env.scope scope own) (h : WI X (.Name n tpos) iter ρ M fun xs M1 => DCompT X scope kx vx ifs (bd1 ρ own i) (fun kds M2 => Q (.dic kds) M2) xs [] M1) (hi : X.N[i]? = some n := by rfl) (hm : i ∈ own.map (·.2) := by decide) (hx : ∀ (s : Shared) (H : Hp) (C : Addr) (cl : List (Str × Addr)) (fp : List Addr), Loc (Blk X scope s H C cl fp).env.scope n ∧ ((Blk X scope s H C cl fp).fn n = true ∨ (Blk X scope s H C cl fp).env.scope.names.lookup n = some .local) := by intro _ _ _ _ _; first | exact ⟨.inl rfl, .inr rfl⟩ | exact ⟨.inr rfl, .inl rfl⟩) (hs : ∀ x, foldedSetIterable iter X.env x = pure x := by intro _; rfl) : WE X (.DictComp kx vx [⟨.Name n tpos, iter, ifs, 0⟩] scope pos) ρ M Q :=
  WE.dc hc hN ok (bind_name hm) (fun s H C cl fp => pg_name hN hi (hx s H C cl fp).1 (hx s H C cl fp).2) h hs
theorem WE.dc2 (i j : Nat) (own : List (Str × Nat)) (hc : X.calm = true) (hN : X.N.Nodup) (ok : BlkOk X.N X.env.scope scope own) (h : WI X (.Tuple [.Name n q1, .Name n2 q2] kk tpos) iter ρ M fun xs M1 => DCompT X scope kx vx ifs (bd2 ρ own i j) (fun kds M2 => Q (.dic kds) M2) xs [] M1) (hi : X.N[i]? = some n := by rfl) (hj : X.N[j]? = some n2 := by rfl) (hm : i ∈ own.map (·.2) := by decide) (hm2 : j ∈ own.map (·.2) := by decide) (hx : ∀ (s : Shared) (H : Hp) (C : Addr) (cl : List (Str × Addr)) (fp : List Addr), Loc (Blk X scope s H C cl fp).env.scope n ∧ ((Blk X scope s H C cl fp).fn n = true ∨ (Blk X scope s H C cl fp).env.scope.names.lookup n = some .local) := by intro _ _ _ _ _; first | exact ⟨.inl rfl, .inr rfl⟩ | exact ⟨.inr rfl, .inl rfl⟩) (hx2 : ∀ (s : Shared) (H : Hp) (C : Addr) (cl : List (Str × Addr)) (fp : List Addr), Loc (Blk X scope s H C cl fp).env.scope n2 ∧ ((Blk X scope s H C cl fp).fn n2 = true ∨ (Blk X scope s H C cl fp).env.scope.names.lookup n2 = some .local) := by intro _ _ _ _ _; first | exact ⟨.inl rfl, .inr rfl⟩ | exact ⟨.inr rfl, .inl rfl⟩) (hs : ∀ x, foldedSetIterable iter X.env x = pure x := by intro _; rfl) : WE X (.DictComp kx vx [⟨.Tuple [.Name n q1, .Name n2 q2] kk tpos, iter, ifs, 0⟩] scope pos) ρ M Q :=
  WE.dc hc hN ok (bind_two hm hm2) (fun s H C cl fp => pg_tup hc (pgs_cons (pg_name hN hi (hx s H C cl fp).1 (hx s H C cl fp).2) (pgs_cons (pg_name hN hj (hx2 s H C cl fp).1 (hx2 s H C cl fp).2) pgs_nil))) h hs
theorem WS.setDc1 {m : Str} {mpos spos : Pos} (k : Nat) (i : Nat) (own : List (Str × Nat)) (hc : X.calm = true) (hN : X.N.Nodup) (ok : BlkOk X.N X.env.scope scope own) (h : WI X (.Name n tpos) iter ρ M fun xs M1 => DCompT X scope kx vx ifs (bd1 ρ own i) (fun kds M2 => E.nx (ρ.set k (some (.dic kds))) M2) xs [] M1) (hi : X.N[i]? = some n := by rfl) (hm : i ∈ own.map (·.2) := by decide) (hx : ∀ (s : Shared) (H : Hp) (C : Addr) (cl : List (Str × Addr)) (fp : List Addr), Loc (Blk X scope s H C cl fp).env.scope n ∧ ((Blk X scope s H C cl fp).fn n = true ∨ (Blk X scope s H C cl fp).env.scope.names.lookup n = some .local) := by intro _ _ _ _ _; first | exact ⟨.inl rfl, .inr rfl⟩ | exact ⟨.inr rfl, .inl rfl⟩) (hk : X.N[k]? = some m := by rfl) (hl : X.env.scope.names.lookup m = some .local := by rfl) (hsw : swapsWith (.DictComp kx vx [⟨.Name n tpos, iter, ifs, 0⟩] scope pos) (some (.Name m mpos)) spos.line X.env = pure true := by rfl) (hs : ∀ x, foldedSetIterable iter X.env x = pure x := by intro _; rfl) : WS X (.Assign [.Name m mpos] (.DictComp kx vx [⟨.Name n tpos, iter, ifs, 0⟩] scope pos) spos) ρ M E :=
  WS.setDc k hc hN ok (bind_name hm) (fun s H C cl fp => pg_name hN hi (hx s H C cl fp).1 (hx s H C cl fp).2) h hk hl hsw hs
theorem WS.setDc2 {m : Str} {mpos spos : Pos} (k : Nat) (i j : Nat) (own : List (Str × Nat)) (hc : X.calm = true) (hN : X.N.Nodup) (ok : BlkOk X.N X.env.scope scope own) (h : WI X (.Tuple [.Name n q1, .Name n2 q2] kk tpos) iter ρ M fun xs M1 => DCompT X scope kx vx ifs (bd2 ρ own i j) (fun kds M2 => E.nx (ρ.set k (some (.dic kds))) M2) xs [] M1) (hi : X.N[i]? = some n := by rfl) (hj : X.N[j]? = some n2 := by rfl) (hm : i ∈ own.map (·.2) := by decide) (hm2 : j ∈ own.map (·.2) := by decide) (hx : ∀ (s : Shared) (H : Hp) (C : Addr) (cl : List (Str × Addr)) (fp : List Addr), Loc (Blk X scope s H C cl fp).env.scope n ∧ ((Blk X scope s H C cl fp).fn n = true ∨ (Blk X scope s H C cl fp).env.scope.names.lookup n = some .local) := by intro _ _ _ _ _; first | exact ⟨.inl rfl, .inr rfl⟩ | exact ⟨.inr rfl, .inl rfl⟩) (hx2 : ∀ (s : Shared) (H : Hp) (C : Addr) (cl : List (Str × Addr)) (fp : List Addr), Loc (Blk X scope s H C cl fp).env.scope n2 ∧ ((Blk X scope s H C cl fp).fn n2 = true ∨ (Blk X scope s H C cl fp).env.scope.names.lookup n2 = some .local) := by intro _ _ _ _ _; first | exact ⟨.inl rfl, .inr rfl⟩ | exact ⟨.inr rfl, .inl rfl⟩) (hk : X.N[k]? = some m := by rfl) (hl : X.env.scope.names.lookup m = some .local := by rfl) (hsw : swapsWith (.DictComp kx vx [⟨.Tuple [.Name n q1, .Name n2 q2] kk tpos, iter, ifs, 0⟩] scope pos) (some (.Name m mpos)) spos.line X.env = pure true := by rfl) (hs : ∀ x, foldedSetIterable iter X.env x = pure x := by intro _; rfl) : WS X (.Assign [.Name m mpos] (.DictComp kx vx [⟨.Tuple [.Name n q1, .Name n2 q2] kk tpos, iter, ifs, 0⟩] scope pos) spos) ρ M E :=
  WS.setDc k hc hN ok (bind_two hm hm2) (fun s H C cl fp => pg_tup hc (pgs_cons (pg_name hN hi (hx s H C cl fp).1 (hx s H C cl fp).2) (pgs_cons (pg_name hN hj (hx2 s H C cl fp).1 (hx2 s H C cl fp).2) pgs_nil))) h hk hl hsw hs
end
/-! ### for loops by what holds of what is left -/
theorem WG.imp {X : Cx} {tg : Expr} {x : D} {ρ : En} {M : Mp} {R R' : En → Mp → Prop} (h : WG X tg x ρ M R) (q : ∀ ρ M, R ρ M → R' ρ M) : WG X tg x ρ M R' :=
  ⟨fun pins s σ H F v u I S r rp => thn (h.run pins s σ H F v u I S r rp) fun _ s' ⟨σ', H', I', F', M', ρ', t, S', z⟩ => ⟨σ', H', I', F', M', ρ', t, S', q _ _ z⟩⟩
theorem ForT.by {X : Cx} {tg : Expr} {body : List Stmt} {E : TEs} (P : List D → En → Mp → Prop) (step : ∀ x xs ρ M, P (x :: xs) ρ M → WG X tg x ρ M fun ρ1 M1 => WSs X body ρ1 M1 { nx := P xs, ct := P xs, rt := E.rt, bk := E.nx })
    (done : ∀ ρ M, P [] ρ M → ∃ ρt, Le ρt ρ ∧ E.nx ρt M) : ∀ {xs : List D} {ρ : En} {M : Mp}, P xs ρ M → ForT X tg body E xs ρ M
  | [], ρ, M, h => done ρ M h
  | x :: xs, ρ, M, h => WG.imp (step x xs ρ M h) fun ρ1 M1 w => w.imp (fun _ _ z => ForT.by P step done z) (fun _ _ z => z) (fun _ _ z => z) (fun _ _ z => ForT.by P step done z)
theorem WT.imp {X : Cx} {e : Expr} {ρ : En} {M : Mp} {R R' : Bool → Mp → Prop} (h : WT X e ρ M R) (q : ∀ b M, R b M → R' b M) : WT X e ρ M R' := ⟨fun pins s σ H F I S => thn (h.run pins s σ H F I S) fun _ _ ⟨H', F', M', I', t, z⟩ => ⟨H', F', M', I', t, q _ _ z⟩⟩
/-- an if whose test is false -/
theorem WSs.skip {X : Cx} {c : Expr} {body rest : List Stmt} {pos : Pos} {ρ : En} {M : Mp} {E : TEs} (h : WT X c ρ M fun k M' => k = false ∧ WSs X rest ρ M' E) : WSs X (.If c body [] pos :: rest) ρ M E :=
  .cons (.ite (h.imp fun k M' ⟨e, q⟩ => ⟨fun z => (by rw [e] at z; cases z), fun _ => .done q⟩))
/-- an if whose test is true, that ends there -/
theorem WSs.take {X : Cx} {c : Expr} {body orelse rest : List Stmt} {pos : Pos} {ρ : En} {M : Mp} {E : TEs} (h : WT X c ρ M fun k M' => k = true ∧ WSs X body ρ M' { E with nx := fun ρ' M' => WSs X rest ρ' M' E }) : WSs X (.If c body orelse pos :: rest) ρ M E :=
  .cons (.ite (h.imp fun k M' ⟨e, q⟩ => ⟨fun _ => q, fun z => (by rw [e] at z; cases z)⟩))
theorem WE.globI {X : Cx} {M : Mp} {ρ : En} {Q : DQ} {x : Str} {i : Int} {t : Tok} {pos : Pos} (hm : X.mg x = some (.int i t)) (h : Q (.int i) M) (hg : Gl X x := by rfl) (hd : (x == ("__debug__" : Str)) = false := by decide) : WE X (.Name x pos) ρ M Q :=
  .glob (v := .int i) hm ⟨t, rfl⟩ (fun _ => .int i) h hg hd
theorem WE.globS {X : Cx} {M : Mp} {ρ : En} {Q : DQ} {x : Str} {z : String} {t : Tok} {pos : Pos} (hm : X.mg x = some (.str (Str.ofString z) t)) (h : Q (.str (lit z)) M) (hg : Gl X x := by rfl) (hd : (x == ("__debug__" : Str)) = false := by decide) : WE X (.Name x pos) ρ M Q :=
  .glob (v := .str (Str.ofString z)) hm ⟨t, rfl⟩ (fun _ => by rw [lit_eq]; exact .str _) h hg hd
/-! ### data that may be compared -/
mutual
def dep : D → Nat
  | .tup xs | .lst xs => deps xs + 1
  | _ => 0
def deps : List D → Nat
  | [] => 0
  | d :: ds => max (dep d) (deps ds)
end
mutual
/-- data that may be compared, of any depth -/
def isS : D → Bool
  | .non | .bl _ | .int _ => true
  | .str x => PyData.strOk ⟨x.toArray⟩
  | .tup xs | .lst xs => areS xs
  | .ty _ | .ref _ | .dic _ | .ins _ _ | .xn _ _ _ | .tun _ => false
def areS : List D → Bool
  | [] => true
  | d :: ds => isS d && areS ds
end
mutual
theorem py_lay : ∀ d : D, isS d = true → isPy d = true ∧ (py d).canLay0 = true ∧ (py d).depth = dep d
  | .non, _ => ⟨rfl, by simp [py, PyData.canLay0], by simp [py, PyData.depth, dep]⟩
  | .bl _, _ => ⟨rfl, by simp [py, PyData.canLay0], by simp [py, PyData.depth, dep]⟩
  | .int _, _ => ⟨rfl, by simp [py, PyData.canLay0], by simp [py, PyData.depth, dep]⟩
  | .str x, h => ⟨rfl, by simpa [py, PyData.canLay0, isS] using h, by simp [py, PyData.depth, dep]⟩
  | .ty _, h => by simp [isS] at h
  | .ref _, h => by simp [isS] at h
  | .dic _, h => by simp [isS] at h
  | .ins _ _, h => by simp [isS] at h
  | .xn _ _ _, h => by simp [isS] at h
  | .tun _, h => by simp [isS] at h
  | .tup xs, h => by
    obtain ⟨h0, h1, h2⟩ := pys_lay xs (by simpa [isS] using h)
    exact ⟨by simpa [isPy] using h0, by simpa [py, PyData.canLay0] using h1, by simp [py, PyData.depth, dep, h2]⟩
  | .lst xs, h => by
    obtain ⟨h0, h1, h2⟩ := pys_lay xs (by simpa [isS] using h)
    exact ⟨by simpa [isPy] using h0, by simpa [py, PyData.canLay0] using h1, by simp [py, PyData.depth, dep, h2]⟩
theorem pys_lay : ∀ ds : List D, areS ds = true → arePy ds = true ∧ PyData.canLayAll0 (pys ds) = true ∧ PyData.depthAll (pys ds) = deps ds
  | [], _ => ⟨rfl, by simp [pys, PyData.canLayAll0], by simp [pys, PyData.depthAll, deps]⟩
  | d :: ds, h => by
    simp only [areS, Bool.and_eq_true] at h
    obtain ⟨h0, h1, h2⟩ := py_lay d h.1
    obtain ⟨h3, h4, h5⟩ := pys_lay ds h.2
    exact ⟨by simp [arePy, h0, h3], by simp [pys, PyData.canLayAll0, h1, h4], by simp [pys, PyData.depthAll, deps, h2, h5]⟩
end
theorem shp_of {d : D} (h : isS d = true) (hd : dep d ≤ 64) : shp d = true := by
  obtain ⟨h0, h1, h2⟩ := py_lay d h
  unfold shp SeqAt.shaped
  rw [h0, h1, h2]
  simpa using hd
theorem areS_of {ds : List D} (h : ∀ d ∈ ds, isS d = true) : areS ds = true := by
  induction ds with
  | nil => rfl
  | cons d ds ih => simp [areS, h d (List.mem_cons_self ..), ih fun e he => h e (List.mem_cons_of_mem _ he)]
theorem deps_le {ds : List D} {n : Nat} (h : ∀ d ∈ ds, dep d ≤ n) : deps ds ≤ n := by
  induction ds with
  | nil => exact Nat.zero_le _
  | cons d ds ih => exact Nat.max_le.mpr ⟨h d (List.mem_cons_self ..), ih fun e he => h e (List.mem_cons_of_mem _ he)⟩
theorem atI_nat {α : Type} {xs : List α} {i : Nat} : L2.atI xs (i : Int) = xs[i]? := by
  unfold L2.atI L2.ixN
  rw [if_pos (by omega)]
  by_cases h : i < xs.length
  · rw [if_pos (by omega)]
    simp
  · rw [if_neg (by omega), List.getElem?_eq_none (by omega)]
    rfl
end TL
end
section
set_option maxRecDepth 100000
set_option maxHeartbeats 0
/-! K81C: the small defs walked. -/
namespace K81
open PySem PySem.Spec PyProof.Rows L2 TL
open He (ga ma fAd)
abbrev P81 : Program := PySem.Challenge.pw_loomhold_k81_reduced_looms_and_first_cro
section
variable {w : World} {K : PySem.W.Frag} {mg : Str → Option Value} {base : Heap} {M : Mp} {Q : DQ}
theorem t_is_whole (c : E81 w K mg base) {i : Int} (h : Q (.bl true) M) : TFn P81 w K mg base 1 (ga K "is_whole") (fdOf K ("is_whole", none)) ["thing"] [.int i] M Q := by
  refine TFn.of c.f_is_whole s_is_whole rfl fun cdv A outer s H F hr => ?_
  refine .one (.ret (WE.and (WE.callB c.n_isinstance rfl (.cons (.var 0 rfl (.cons (.ty c.n_int rfl (.nil ?_)) ))))))
  refine VC.isi (t := "int") (b := true) rfl rfl ⟨_, rfl, fun z => (nomatch z), fun _ => ?_⟩
  refine .one (.not (.callB c.n_isinstance rfl (.cons (.var 0 rfl (.cons (.ty c.n_bool rfl (.nil ?_)))))))
  exact VC.isi (t := "int") (b := false) rfl rfl ⟨_, rfl, h⟩
theorem t_is_below (c : E81 w K mg base) {i n : Int} (h0 : 0 ≤ i) (h1 : i < n) (h : Q (.bl true) M) : TFn P81 w K mg base 2 (ga K "is_below") (fdOf K ("is_below", none)) ["thing", "bound"] [.int i, .int n] M Q := by
  refine TFn.of c.f_is_below s_is_below rfl fun cdv A outer s H F hr => ?_
  refine .one (.ret (WE.and (WE.call hr c.g_is_whole c.f_is_whole.kp c.b_is_whole (.cons (.var 0 rfl (.nil (t_is_whole c ⟨_, rfl, fun z => (nomatch z), fun _ => ?_⟩)))))))
  refine .one (.chain (.int (.var 0 rfl (.le ⟨_, rfl, fun z => ?_, fun _ => .var 1 rfl (.lt ?_)⟩))))
  · simp [h0] at z
  · simpa [h1] using h
def riseB (ns : List Int) : Bool := (List.zipWith (fun a b => decide (a < b)) ns (ns.drop 1)).all fun b => b
theorem cut1 {α : Type} (xs : List α) : TL.cutD xs (some 1) none = xs.drop 1 := by
  cases xs with
  | nil => rfl
  | cons x xs =>
    have e1 : HT.sIx (x :: xs).length 0 (some 1) = 1 := by
      rw [show (1 : Int) = ((1 : Nat) : Int) from rfl, HT.sIx_nat]
      simp
    unfold TL.cutD
    rw [e1, HT.sIx_none]
    simp
theorem zp_ints (ms ns : List Int) : zpD (ms.map D.int) (ns.map D.int) = List.zipWith (fun a b => D.tup [.int a, .int b]) ms ns := by
  induction ms generalizing ns with
  | nil => rfl
  | cons m ms ih => cases ns with
    | nil => rfl
    | cons n ns => simp only [List.map_cons, zpD, List.zipWith_cons_cons]; exact congrArg _ (ih ns)
theorem t_do_rise (c : E81 w K mg base) {ns : List Int} (hl : ns.length ≤ 100) (h : Q (.bl (riseB ns)) M) : TFn P81 w K mg base 1 (ga K "do_rise") (fdOf K ("do_rise", none)) ["numbers"] [.tup (ns.map D.int)] M Q := by
  refine TFn.of c.f_do_rise s_do_rise rfl fun cdv A outer s H F hr => ?_
  refine .one (.ret (WE.callB c.n_all rfl (.cons ?_)))
  refine WE.lc2 1 2 [("one", 1), ("other", 2)] rfl s_do_rise.nd (show BlkOk n_do_rise (defScope (top 13)) _ _ from ⟨rfl, by decide +kernel, by decide +kernel, by decide +kernel, by decide +kernel⟩) ?_
  refine WI.zip c.n_zip (.cons (.var 0 rfl (.cons (.slice (.var 0 rfl (.some (.int ⟨1, rfl, .none (.tup (.nil ?_))⟩)))))))
  refine ⟨_, _, _, _, rfl, rfl, rfl, ?_⟩
  rw [cut1, ← List.map_drop, zp_ints]
  refine CompT.map (fun d => match d with | .tup [.int a, .int b] => .bl (decide (a < b)) | _ => .non) (fun x hx => ?_) ?_ ?_
  · obtain ⟨i, hi, rfl⟩ := List.mem_iff_getElem.mp hx
    rw [List.getElem_zipWith]
    exact ⟨_, rfl, fun s H C cl fp => .cmp (.var 1 rfl (.var 2 rfl (.lt ⟨rfl, rfl⟩)))⟩
  · rw [sizeLine_eq]; simp; omega
  · refine .nil ?_
    have e : (List.zipWith (fun a b => D.tup [.int a, .int b]) ns (ns.drop 1)).map (fun d => match d with | .tup [.int a, .int b] => D.bl (decide (a < b)) | _ => .non) = (List.zipWith (fun a b => decide (a < b)) ns (ns.drop 1)).map D.bl := by
      rw [List.map_zipWith, List.map_zipWith]
    rw [List.nil_append, e]
    exact VC.all rfl h
theorem t_is_lift_below (c : E81 w K mg base) {ns : List Int} {n : Int} (hl : ns.length ≤ 100) (hb : ∀ i ∈ ns, 0 ≤ i ∧ i < n) (hr : riseB ns = true) (h : Q (.bl true) M) : TFn P81 w K mg base 3 (ga K "is_lift_below") (fdOf K ("is_lift_below", none)) ["shafts", "thing"] [.int n, .tup (ns.map D.int)] M Q := by
  refine TFn.of c.f_is_lift_below s_is_lift_below rfl fun cdv A outer s H F hr2 => ?_
  refine .one (.ret (WE.and (WE.callB c.n_isinstance rfl (.cons (.var 1 rfl (.cons (.ty c.n_tuple rfl (.nil ?_))))))))
  refine VC.isi (t := "tuple") (b := true) rfl rfl ⟨_, rfl, fun z => (nomatch z), fun _ => ?_⟩
  refine WE.and (WE.callB c.n_all rfl (.cons ?_))
  refine WE.lc1 2 [("shaft", 2)] rfl s_is_lift_below.nd (show BlkOk n_is_lift_below (defScope (top 14)) _ _ from ⟨rfl, by decide +kernel, by decide +kernel, by decide +kernel, by decide +kernel⟩) ?_
  refine WI.tup (.var 1 rfl ⟨_, rfl, ?_⟩)
  refine CompT.map (fun _ => .bl true) (fun x hx => ?_) (by rw [sizeLine_eq]; simp; omega) (.nil ?_)
  · obtain ⟨i, hi, rfl⟩ := List.mem_map.mp hx
    exact ⟨_, rfl, fun s H C cl fp => .call hr2 c.g_is_below c.f_is_below.kp c.b_is_below (.cons (.var 2 rfl (.cons (.var 0 rfl (.nil (t_is_below c (hb i hi).1 (hb i hi).2 ⟨rfl, rfl⟩))))))⟩
  · have e : (ns.map D.int).map (fun _ => D.bl true) = (ns.map fun _ => true).map D.bl := by rw [List.map_map, List.map_map]; rfl
    rw [List.nil_append, e]
    refine VC.all rfl ⟨_, rfl, fun z => ?_, fun _ => ?_⟩
    · simp at z
    · refine .one (.call (hr2.mono (by omega)) c.g_do_rise c.f_do_rise.kp c.b_do_rise (.cons (.var 1 rfl (.nil (t_do_rise c hl ?_)))))
      rw [hr]; exact h
end
end K81
end
section
set_option maxRecDepth 100000
set_option maxHeartbeats 0
/-! K81D: looms. -/
namespace K81
open PySem PySem.Spec PyProof.Rows L2 TL
open He (ga ma fAd)
/-- a loom's data -/
structure LW where
  sh : Int
  ends : List Int
  lifts : List (List Int)
abbrev tupI (ns : List Int) : D := .tup (ns.map D.int)
abbrev alpha : List Nat := lit "abcdefghijklmnopqrstuvwxyz"
def LW.insF (v : LW) : List (Str × D) := [("shafts", .int v.sh), ("threading", tupI v.ends), ("lifts", .tup (v.lifts.map tupI)), ("letters", .str (alpha.take v.lifts.length)), ("used", tupI (sortI (uniq [] v.ends)))]
/-- the code's loom -/
def loomD (K : PySem.W.Frag) (v : LW) : D := .ins (ga K "Loom") v.insF
/-- what a loom must be -/
structure LW.Ok (v : LW) : Prop where
  s1 : 1 ≤ v.sh
  s2 : v.sh ≤ 99
  e0 : v.ends ≠ []
  e1 : v.ends.length ≤ 100
  e2 : ∀ i ∈ v.ends, 0 ≤ i ∧ i < v.sh
  l0 : v.lifts ≠ []
  l1 : v.lifts.length ≤ 26
  l2 : ∀ l ∈ v.lifts, l.length ≤ 100 ∧ (∀ i ∈ l, 0 ≤ i ∧ i < v.sh) ∧ riseB l = true
theorem isS_ints (ns : List Int) : areS (ns.map D.int) = true := areS_of fun d hd => by
  obtain ⟨i, _, rfl⟩ := List.mem_map.mp hd
  rfl
theorem dep_ints (ns : List Int) : deps (ns.map D.int) = 0 := Nat.le_zero.mp (deps_le fun d hd => by
  obtain ⟨i, _, rfl⟩ := List.mem_map.mp hd
  exact Nat.le_refl 0)
theorem shp_ints (ns : List Int) : shp (tupI ns) = true := shp_of (isS_ints ns) (by simp [dep, dep_ints])
theorem shp_lifts (ls : List (List Int)) : shp (.tup (ls.map tupI)) = true := by
  refine shp_of (areS_of fun d hd => ?_) ?_
  · obtain ⟨l, _, rfl⟩ := List.mem_map.mp hd
    exact isS_ints l
  · have : deps (ls.map tupI) ≤ 1 := deps_le fun d hd => by
      obtain ⟨l, _, rfl⟩ := List.mem_map.mp hd
      simp [dep, dep_ints]
    simp only [dep]
    omega
theorem eqv_map {α : Type} [DecidableEq α] (f : α → D) (hf : ∀ a b, eqD (f a) (f b) = decide (a = b)) : ∀ l m : List α, PyData.eqvAll (pys (l.map f)) (pys (m.map f)) = decide (l = m)
  | [], [] => by simp [pys, PyData.eqvAll]
  | [], b :: m => by simp [pys, PyData.eqvAll]
  | a :: l, [] => by simp [pys, PyData.eqvAll]
  | a :: l, b :: m => by
    have h1 : PyData.eqv (py (f a)) (py (f b)) = decide (a = b) := hf a b
    simp only [List.map_cons, pys, PyData.eqvAll, h1, eqv_map f hf l m]
    by_cases h : a = b <;> by_cases h2 : l = m <;> simp [h, h2]
theorem eqD_ints (l m : List Int) : eqD (tupI l) (tupI m) = decide (l = m) := by
  show PyData.eqv (py (tupI l)) (py (tupI m)) = _
  simp only [tupI, py, PyData.eqv]
  exact eqv_map D.int (fun a b => by
    simp only [TL.eqD, py, PyData.eqv]
    by_cases h : a = b <;> simp [h]) l m
theorem eqD_lifts (l m : List (List Int)) : eqD (.tup (l.map tupI)) (.tup (m.map tupI)) = decide (l = m) := by
  show PyData.eqv (py (.tup (l.map tupI))) (py (.tup (m.map tupI))) = _
  simp only [py, PyData.eqv]
  exact eqv_map tupI eqD_ints l m
section
variable {w : World} {K : PySem.W.Frag} {mg : Str → Option Value} {base : Heap} {M : Mp} {Q : DQ}
theorem t_Loom_init (c : E81 w K mg base) {v : LW} (ok : v.Ok) {z : Addr} (hz : M z = none) (h : Q (loomD K v) M) :
    TFn P81 w K mg base 4 (ma K (ga K "Loom") "__init__") (fdOf K ("Loom", some "__init__")) ["self", "shafts", "threading", "lifts"] [.ref z, .int v.sh, tupI v.ends, .tup (v.lifts.map tupI)] (mset M z (.ins (ga K "Loom") [])) (MakeQ (ga K "Loom") z Q) := by
  refine TFn.of c.f_Loom_init s_Loom_init rfl fun cdv A outer s H F hr => ?_
  have u : (A.deeper (envOfC "Loom.__init__" (defScope (me 18 0)) s.heap.objs.size (ma K (ga K "Loom") "__init__") cdv)).units + 64 < cLine := hr.room.units
  have s1 := ok.s1
  have s2 := ok.s2
  obtain ⟨tm, vm⟩ := c.v_MOST
  obtain ⟨tt, vt⟩ := c.v_TREADLES
  refine .skip (.ww (.or (.not ?_)))
  refine .val (.call (hr.mono (j := 1) (by omega)) c.g_is_whole c.f_is_whole.kp c.b_is_whole (.cons (.var 1 rfl (.nil ?_))))
  refine t_is_whole c ⟨_, rfl, fun z => (nomatch z), fun _ => ?_⟩
  refine .or1 (.not (.chain (.int (.var 1 rfl ?_))))
  refine .le ⟨_, rfl, fun z => ?_, fun _ => ?_⟩
  · simp at z; omega
  refine WE.globI vm (.le ⟨_, rfl, ?_, ?_⟩)
  · simp; omega
  -- threading
  refine .skip (.ww (.or (.not ?_)))
  refine .val (.callB c.n_isinstance rfl (.cons (.var 2 rfl (.cons (.ty c.n_tuple rfl (.nil ?_))))))
  refine VC.isi (t := "tuple") (b := true) rfl rfl ⟨_, rfl, fun z => (nomatch z), fun _ => ?_⟩
  refine .or1 (.cmp (.var 2 rfl (.tuple (.nil ⟨by decide, ?_⟩))))
  refine VO.eqD u (shp_ints _) rfl ⟨_, rfl, ?_, ?_⟩
  · cases he : v.ends with
    | nil => exact absurd he ok.e0
    | cons x xs => simp [TL.eqD, py, pys, PyData.eqv, PyData.eqvAll]
  refine .skip (.not (.val (.callB c.n_all rfl (.cons ?_))))
  refine WE.lc1 4 [("shaft", 4)] rfl s_Loom_init.nd (show BlkOk n_Loom_init (defScope (me 18 0)) _ _ from ⟨rfl, by decide +kernel, by decide +kernel, by decide +kernel, by decide +kernel⟩) ?_
  refine WI.tup (.var 2 rfl ⟨_, rfl, ?_⟩)
  have h1 := ok.e1
  refine CompT.map (fun _ => .bl true) (fun x hx => ?_) (by rw [sizeLine_eq]; simp; omega) (.nil ?_)
  · obtain ⟨i, hi, rfl⟩ := List.mem_map.mp hx
    refine ⟨_, rfl, fun s H C cl fp => .call (hr.mono (j := 2) (by omega)) c.g_is_below c.f_is_below.kp c.b_is_below (.cons (.var 4 rfl (.cons (.var 1 rfl (.nil (t_is_below c (ok.e2 i hi).1 (ok.e2 i hi).2 ⟨rfl, rfl⟩))))))⟩
  have e : (v.ends.map D.int).map (fun _ => D.bl true) = (v.ends.map fun _ => true).map D.bl := by rw [List.map_map, List.map_map]; rfl
  rw [List.nil_append, e]
  refine VC.all rfl ⟨_, rfl, by simp, ?_⟩
  -- lifts
  refine .skip (.ww (.or (.not ?_)))
  refine .val (.callB c.n_isinstance rfl (.cons (.var 3 rfl (.cons (.ty c.n_tuple rfl (.nil ?_))))))
  refine VC.isi (t := "tuple") (b := true) rfl rfl ⟨_, rfl, fun z => (nomatch z), fun _ => ?_⟩
  refine .or1 (.not (.chain (.int (.callB c.n_len rfl (.cons (.var 3 rfl (.nil ?_)))))))
  have l0 : 1 ≤ v.lifts.length := by
    cases he : v.lifts with
    | nil => exact absurd he ok.l0
    | cons _ _ => simp
  have l1 := ok.l1
  refine VC.len (n := v.lifts.length) (by simp [lenD]) (.le ⟨_, rfl, fun z => ?_, fun _ => ?_⟩)
  · simp at z; omega
  refine .callB c.n_len rfl (.cons (.globS vt (.nil ?_)))
  refine VC.len (n := 26) (by decide +kernel) (.le ⟨_, rfl, ?_, ?_⟩)
  · simp; omega
  -- each lift
  refine .cons (.for (L2.passes_of rfl) rfl ?_)
  refine WI.enum c.n_enumerate (.var 3 rfl ⟨_, rfl, ?_⟩)
  refine ForT.by (fun rest ρ M' => M' = mset M z (.ins (ga K "Loom") []) ∧ (∃ x5 x6, ρ = [some (.ref z), some (.int v.sh), some (tupI v.ends), some (.tup (v.lifts.map tupI)), none, x5, x6]) ∧ ∀ d ∈ rest, ∃ (i : Int) (l : List Int), l ∈ v.lifts ∧ d = .tup [.int i, tupI l]) ?_ ?_ ⟨rfl, ⟨none, none, rfl⟩, ?_⟩
  · rintro x xs ρ M' ⟨rfl, ⟨x5, x6, rfl⟩, hx⟩
    obtain ⟨i, l, hl, rfl⟩ := hx x (List.mem_cons_self ..)
    have o := ok.l2 l hl
    refine .tup rfl (.cons (.name 5 (.cons (.name 6 (.nil ?_) s_Loom_init.nd)) s_Loom_init.nd))
    refine .skip (.not (.val (.call (hr.mono (j := 3) (by omega)) c.g_is_lift_below c.f_is_lift_below.kp c.b_is_lift_below (.cons (.var 1 rfl (.cons (.var 6 rfl (.nil ?_))))))))
    refine t_is_lift_below c o.1 o.2.1 o.2.2 ⟨_, rfl, rfl, .done ?_⟩
    exact ⟨rfl, ⟨_, _, rfl⟩, fun d hd => hx d (List.mem_cons_of_mem _ hd)⟩
  · rintro ρ M' ⟨rfl, ⟨x5, x6, rfl⟩, _⟩
    refine ⟨[some (.ref z), some (.int v.sh), some (tupI v.ends), some (.tup (v.lifts.map tupI)), none, none, none], by simp [Le], ?_⟩
    have putL : ∀ (f : Str) (d : D) (fs : List (Str × D)), (∀ p ∈ fs, p.1 ≠ f) → putD f d fs = fs ++ [(f, d)] := fun f d fs hf => by
      induction fs with
      | nil => rfl
      | cons p fs ih =>
        obtain ⟨g, x⟩ := p
        have := hf (g, x) (List.mem_cons_self ..)
        simp only [putD, if_neg this, List.cons_append]
        rw [ih fun p hp => hf p (List.mem_cons_of_mem _ hp)]
    refine .cons (.fld (.var 1 rfl (.var 0 rfl ⟨z, _, _, rfl, mset_same, c.cls_Loom, c.no_Loom_shafts, by decide, ?_⟩)))
    rw [mset_mset, putL _ _ _ (by decide +kernel)]
    refine .cons (.fld (.var 2 rfl (.var 0 rfl ⟨z, _, _, rfl, mset_same, c.cls_Loom, c.no_Loom_threading, by simp, ?_⟩)))
    rw [mset_mset, putL _ _ _ (by simp; decide +kernel)]
    refine .cons (.fld (.var 3 rfl (.var 0 rfl ⟨z, _, _, rfl, mset_same, c.cls_Loom, c.no_Loom_lifts, by simp, ?_⟩)))
    rw [mset_mset, putL _ _ _ (by simp; decide +kernel)]
    refine .cons (.fld (.slice (.globS vt (.none (.some ?_)))))
    refine .callB c.n_len rfl (.cons (.var 3 rfl (.nil ?_)))
    refine VC.len (n := v.lifts.length) (by simp [lenD]) ⟨_, rfl, ?_⟩
    refine VS.str (by decide +kernel) (.var 0 rfl ⟨z, _, _, rfl, mset_same, c.cls_Loom, c.no_Loom_letters, by simp, ?_⟩)
    rw [mset_mset, putL _ _ _ (by simp; decide +kernel)]
    refine .cons (.fld (.callTy c.n_tuple rfl (.cons ?_)))
    refine .sortedSetI rfl c.n_sorted c.n_set (.var 2 rfl ⟨v.ends, .tupI _, by have := ok.e1; unfold scanBound; omega, .nil ?_⟩)
    refine VC.tupleL (.var 0 rfl ⟨z, _, _, rfl, mset_same, c.cls_Loom, c.no_Loom_used, by simp, ?_⟩)
    rw [mset_mset, putL _ _ _ (by simp; decide +kernel)]
    refine .done ⟨rfl, _, mset_same, ?_⟩
    rw [mdel_mset hz]
    have ec : TL.cutD (lit "abcdefghijklmnopqrstuvwxyz") none (some (v.lifts.length : Int)) = alpha.take v.lifts.length := by
      unfold TL.cutD
      rw [HT.sIx_none, HT.sIx_nat, List.drop_zero, Nat.sub_zero]
      have : (lit "abcdefghijklmnopqrstuvwxyz").length = 26 := by decide +kernel
      rw [Nat.min_eq_left (by omega)]
    rw [ec]
    exact h
  · intro d hd
    obtain ⟨i, hi, rfl⟩ := List.mem_map.mp hd
    rw [List.length_map] at hi
    have hi' := List.mem_range.mp hi
    refine ⟨i, v.lifts[i], List.getElem_mem _, ?_⟩
    rw [List.getD_eq_getElem?_getD, List.getElem?_map, List.getElem?_eq_getElem hi']
    rfl
theorem t_Loom_len (c : E81 w K mg base) {v : LW} (h : Q (.int v.ends.length) M) : TFn P81 w K mg base 1 (ma K (ga K "Loom") "__len__") (fdOf K ("Loom", some "__len__")) ["self"] [loomD K v] M Q := by
  refine TFn.of c.f_Loom_len s_Loom_len rfl fun cdv A outer s H F hr => ?_
  refine .one (.ret (.callB c.n_len rfl (.cons (.fld (.var 0 rfl ⟨_, v.insF, _, rfl, c.cls_Loom, c.no_Loom_threading, by rfl, .nil ?_⟩)))))
  exact VC.len (n := v.ends.length) (by simp [lenD]) h
theorem t_Loom_eq (c : E81 w K mg base) {v u : LW} (h : Q (.bl (decide (v.sh = u.sh ∧ v.ends = u.ends ∧ v.lifts = u.lifts))) M) : TFn P81 w K mg base 1 (ma K (ga K "Loom") "__eq__") (fdOf K ("Loom", some "__eq__")) ["self", "other"] [loomD K v, loomD K u] M Q := by
  refine TFn.of c.f_Loom_eq s_Loom_eq rfl fun cdv A outer s H F hr => ?_
  have u' := hr.room.units
  refine .one (.ret (.and (.callB c.n_isinstance rfl (.cons (.var 1 rfl (.cons (.cls c.g_Loom (.nil ?_))))))))
  refine VC.isC c.is_Loom c.kit_Loom ⟨_, rfl, fun z => (nomatch z), fun _ => ?_⟩
  refine .and (.cmp (.fld (.var 0 rfl ⟨_, v.insF, _, rfl, c.cls_Loom, c.no_Loom_shafts, by rfl, ?_⟩)))
  refine .fld (.var 1 rfl ⟨_, u.insF, _, rfl, c.cls_Loom, c.no_Loom_shafts, by rfl, .eqI ⟨_, rfl, fun e1 => ?_, fun e1 => ?_⟩⟩)
  · have e1 := of_decide_eq_false e1
    simpa [e1] using h
  have e1 := of_decide_eq_true e1
  refine .and (.cmp (.fld (.var 0 rfl ⟨_, v.insF, _, rfl, c.cls_Loom, c.no_Loom_threading, by rfl, ?_⟩)))
  refine .fld (.var 1 rfl ⟨_, u.insF, _, rfl, c.cls_Loom, c.no_Loom_threading, by rfl, VO.eqD u' (shp_ints _) (shp_ints _) ⟨_, rfl, fun e2 => ?_, fun e2 => ?_⟩⟩)
  · rw [eqD_ints] at e2
    have e2 := of_decide_eq_false e2
    simpa [e2] using h
  rw [eqD_ints] at e2
  have e2 := of_decide_eq_true e2
  refine .one (.cmp (.fld (.var 0 rfl ⟨_, v.insF, _, rfl, c.cls_Loom, c.no_Loom_lifts, by rfl, ?_⟩)))
  refine .fld (.var 1 rfl ⟨_, u.insF, _, rfl, c.cls_Loom, c.no_Loom_lifts, by rfl, VO.eqD u' (shp_lifts _) (shp_lifts _) ?_⟩)
  rw [eqD_lifts]
  simpa [e1, e2] using h
/-- a letter's place -/
theorem occ_alpha : ∀ i : Fin 26, Builtin.Str.occurrences ⟨(lit "abcdefghijklmnopqrstuvwxyz").toArray⟩ ⟨[97 + i.val].toArray⟩ 0 (lit "abcdefghijklmnopqrstuvwxyz").length 1 = [i.val] := by decide +kernel
theorem t_Loom_lift_of (c : E81 w K mg base) {v : LW} {i : Nat} (hi : i < v.lifts.length) (ho : v.lifts.length ≤ 26) (h : ∀ l, v.lifts[i]? = some l → Q (tupI l) M) : TFn P81 w K mg base 1 (ma K (ga K "Loom") "lift_of") (fdOf K ("Loom", some "lift_of")) ["self", "letter"] [loomD K v, .str [97 + i]] M Q := by
  refine TFn.of c.f_Loom_lift_of s_Loom_lift_of rfl fun cdv A outer s H F hr => ?_
  obtain ⟨tt, vt⟩ := c.v_TREADLES
  refine .one (.ret (.ix (.fld (.var 0 rfl ⟨_, v.insF, _, rfl, c.cls_Loom, c.no_Loom_lifts, by rfl, ?_⟩))))
  refine .bm PySem.F.plainAttrs_str PySem.F.slot_str_index PySem.F.type_str_index (.globS vt ⟨.str, .cons (.var 1 rfl (.nil ?_))⟩)
  refine VM.sindex (occ_alpha ⟨i, by omega⟩) ?_
  refine VI.tup (d := tupI v.lifts[i]) ?_ (h _ (List.getElem?_eq_getElem hi))
  rw [TL.atI_nat, List.getElem?_map, List.getElem?_eq_getElem hi]
  rfl
end
end K81
end
section
set_option maxRecDepth 100000
set_option maxHeartbeats 0
/-! K81E: treadlings, cloths, weaving. -/
namespace K81
open PySem PySem.Spec PyProof.Rows L2 TL
open He (ga ma fAd)
/-- signs that a treadling of the loom may have -/
def okTr (v : LW) (t : List Nat) : Bool := t.all fun c => decide (c ∈ alpha.take v.lifts.length)
def clothD (K : PySem.W.Frag) (rows : List (List Nat)) : D := .ins (ga K "Cloth") [("picks", .tup (rows.map D.str)), ("ends", .int (rows.headD []).length)]
section
variable {w : World} {K : PySem.W.Frag} {mg : Str → Option Value} {base : Heap} {M : Mp} {Q : DQ}
theorem t_is_treadling (c : E81 w K mg base) {v : LW} {t : List Nat} (hl : t.length ≤ 1000) (h : Q (.bl (okTr v t)) M) : TFn P81 w K mg base 1 (ga K "is_treadling") (fdOf K ("is_treadling", none)) ["loom", "thing"] [loomD K v, .str t] M Q := by
  refine TFn.of c.f_is_treadling s_is_treadling rfl fun cdv A outer s H F hr => ?_
  refine .one (.ret (WE.and (WE.callB c.n_isinstance rfl (.cons (.var 1 rfl (.cons (.ty c.n_str rfl (.nil ?_))))))))
  refine VC.isi (t := "str") (b := true) rfl rfl ⟨_, rfl, fun z => (nomatch z), fun _ => ?_⟩
  refine .one (WE.callB c.n_all rfl (.cons ?_))
  refine WE.lc1 2 [("sign", 2)] rfl s_is_treadling.nd (show BlkOk n_is_treadling (defScope (top 19)) _ _ from ⟨rfl, by decide +kernel, by decide +kernel, by decide +kernel, by decide +kernel⟩) ?_
  refine WI.str (.var 1 rfl ⟨_, rfl, ?_⟩)
  refine CompT.map (fun d => match d with | .str [x] => .bl (decide (x ∈ alpha.take v.lifts.length)) | _ => .non) (fun x hx => ?_) (by rw [sizeLine_eq]; simp; omega) (.nil ?_)
  · obtain ⟨i, hi, rfl⟩ := List.mem_map.mp hx
    refine ⟨_, rfl, fun s H C cl fp => .cmp (.var 2 rfl (.fld (.var 0 rfl ⟨_, v.insF, _, rfl, c.cls_Loom, c.no_Loom_letters, by rfl, .inSign ⟨rfl, rfl⟩⟩)))⟩
  · have e : (t.map fun x => D.str [x]).map (fun d => match d with | .str [x] => D.bl (decide (x ∈ alpha.take v.lifts.length)) | _ => .non) = (t.map fun x => decide (x ∈ alpha.take v.lifts.length)).map D.bl := by rw [List.map_map, List.map_map]; rfl
    rw [List.nil_append, e]
    refine VC.all rfl ?_
    have e2 : ((t.map fun x => decide (x ∈ alpha.take v.lifts.length)).all fun b => b) = okTr v t := by
      unfold okTr
      rw [List.all_map]
      rfl
    rw [e2]
    exact h
/-- .. of what is no text -/
theorem t_is_treadling_no (c : E81 w K mg base) {v : LW} {d : D} {t : String} (ht : tyD d = some t) (hk : kitB t "str" = some false) (h : Q (.bl false) M) : TFn P81 w K mg base 1 (ga K "is_treadling") (fdOf K ("is_treadling", none)) ["loom", "thing"] [loomD K v, d] M Q := by
  refine TFn.of c.f_is_treadling s_is_treadling rfl fun cdv A outer s H F hr => ?_
  refine .one (.ret (WE.and (WE.callB c.n_isinstance rfl (.cons (.var 1 rfl (.cons (.ty c.n_str rfl (.nil ?_))))))))
  exact VC.isi ht hk ⟨_, rfl, fun _ => h, fun z => (nomatch z)⟩
def pickOk (t : List Nat) : Prop := t ≠ [] ∧ ∀ c ∈ t, c = 120 ∨ c = 45
theorem t_is_pick (c : E81 w K mg base) {t : List Nat} (hl : t.length ≤ 1000) (ok : pickOk t) (h : Q (.bl true) M) : TFn P81 w K mg base 1 (ga K "is_pick") (fdOf K ("is_pick", none)) ["thing"] [.str t] M Q := by
  refine TFn.of c.f_is_pick s_is_pick rfl fun cdv A outer s H F hr => ?_
  obtain ⟨es, n, KD⟩ := c.other
  have in1 : ∀ x : Str, inB "OTHER" x K = true → ∃ u, PySem.W.nsIn K (ga K "OTHER") x = some (some u) := fun x hx => by
    unfold inB at hx
    split at hx
    · rename_i u hu; exact ⟨u, hu⟩
    · cases hx
  obtain ⟨u1, e1⟩ := in1 "x" (c.says.b 14)
  obtain ⟨u2, e2⟩ := in1 "-" (c.says.b 15)
  refine .one (.ret (WE.and (WE.callB c.n_isinstance rfl (.cons (.var 0 rfl (.cons (.ty c.n_str rfl (.nil ?_))))))))
  refine VC.isi (t := "str") (b := true) rfl rfl ⟨_, rfl, fun z => (nomatch z), fun _ => ?_⟩
  refine .and (.cmp (.var 0 rfl (.str (.neS ⟨_, rfl, fun z => ?_, fun _ => ?_⟩))))
  · have : t = [] := by simpa [lit] using z
    exact absurd this ok.1
  refine .one (WE.callB c.n_all rfl (.cons ?_))
  refine WE.lc1 1 [("sign", 1)] rfl s_is_pick.nd (show BlkOk n_is_pick (defScope (top 24)) _ _ from ⟨rfl, by decide +kernel, by decide +kernel, by decide +kernel, by decide +kernel⟩) ?_
  refine WI.str (.var 0 rfl ⟨_, rfl, ?_⟩)
  refine CompT.map (fun _ => .bl true) (fun x hx => ?_) (by rw [sizeLine_eq]; simp; omega) (.nil ?_)
  · obtain ⟨i, hi, rfl⟩ := List.mem_map.mp hx
    refine ⟨_, rfl, fun s H C cl fp => .cmp (.var 1 rfl (.cls c.g_OTHER ?_))⟩
    rcases ok.2 i hi with rfl | rfl
    · exact VO.inKD KD (r := some u1) e1 ⟨rfl, rfl⟩
    · exact VO.inKD KD (r := some u2) e2 ⟨rfl, rfl⟩
  · have e : (t.map fun x => D.str [x]).map (fun _ => D.bl true) = (t.map fun _ => true).map D.bl := by rw [List.map_map, List.map_map]; rfl
    rw [List.nil_append, e]
    refine VC.all rfl ?_
    rw [show ((t.map fun _ => true).all fun b => b) = true from by simp]
    exact h
end
end K81
end
section
set_option maxRecDepth 100000
set_option maxHeartbeats 0
/-! K81F: cloths, weaving. -/
namespace K81
open PySem PySem.Spec PyProof.Rows L2 TL
open He (ga ma fAd)
/-- what a cloth must be -/
structure CW (rows : List (List Nat)) (n : Nat) : Prop where
  r0 : rows ≠ []
  r1 : rows.length ≤ 1000
  n0 : n ≠ 0
  n1 : n ≤ 1000
  r2 : ∀ t ∈ rows, t.length = n ∧ ∀ c ∈ t, c = 120 ∨ c = 45
theorem isS_texts {rows : List (List Nat)} {n : Nat} (h : CW rows n) : areS (rows.map D.str) = true := areS_of fun d hd => by
  obtain ⟨t, ht, rfl⟩ := List.mem_map.mp hd
  show PyData.strOk ⟨t.toArray⟩ = true
  unfold PyData.strOk
  simp only [List.all_toArray, List.all_eq_true, decide_eq_true_eq]
  intro c hc
  rcases (h.r2 t ht).2 c hc with rfl | rfl <;> omega
theorem dep_texts (rows : List (List Nat)) : deps (rows.map D.str) = 0 := Nat.le_zero.mp (deps_le fun d hd => by
  obtain ⟨i, _, rfl⟩ := List.mem_map.mp hd
  exact Nat.le_refl 0)
theorem shp_texts {rows : List (List Nat)} {n : Nat} (h : CW rows n) : shp (.tup (rows.map D.str)) = true := shp_of (isS_texts h) (by simp [dep, dep_texts])
theorem eqD_texts (l m : List (List Nat)) : eqD (.tup (l.map D.str)) (.tup (m.map D.str)) = decide (l = m) := by
  show PyData.eqv (py (.tup (l.map D.str))) (py (.tup (m.map D.str))) = _
  simp only [py, PyData.eqv]
  exact eqv_map D.str (fun a b => by
    simp only [TL.eqD, py, PyData.eqv]
    by_cases h : a = b <;> simp [h]) l m
section
variable {w : World} {K : PySem.W.Frag} {mg : Str → Option Value} {base : Heap} {M : Mp} {Q : DQ}
theorem t_Cloth_init (c : E81 w K mg base) {rows : List (List Nat)} {n : Nat} (ok : CW rows n) {z : Addr} (hz : M z = none) (h : Q (clothD K rows) M) :
    TFn P81 w K mg base 3 (ma K (ga K "Cloth") "__init__") (fdOf K ("Cloth", some "__init__")) ["self", "picks"] [.ref z, .tup (rows.map D.str)] (mset M z (.ins (ga K "Cloth") [])) (MakeQ (ga K "Cloth") z Q) := by
  refine TFn.of c.f_Cloth_init s_Cloth_init rfl fun cdv A outer s H F hr => ?_
  have u := hr.room.units
  have n1 := ok.n1
  refine .skip (.ww (.or (.not ?_)))
  refine .val (.callB c.n_isinstance rfl (.cons (.var 1 rfl (.cons (.ty c.n_tuple rfl (.nil ?_))))))
  refine VC.isi (t := "tuple") (b := true) rfl rfl ⟨_, rfl, fun z => (nomatch z), fun _ => ?_⟩
  refine .or1 (.cmp (.var 1 rfl (.tuple (.nil ⟨by decide, ?_⟩))))
  obtain ⟨r, rs, er⟩ : ∃ r rs, rows = r :: rs := by
    cases e : rows with
    | nil => exact absurd e ok.r0
    | cons r rs => exact ⟨r, rs, rfl⟩
  have hr0 : r ∈ rows := by rw [er]; exact List.mem_cons_self ..
  have lr : r.length = n := (ok.r2 r hr0).1
  refine VO.eqD u (shp_texts ok) rfl ⟨_, rfl, ?_, ?_⟩
  · rw [er]; simp [TL.eqD, py, pys, PyData.eqv, PyData.eqvAll]
  have at0 : L2.atI (rows.map D.str) 0 = some (.str r) := by rw [er, show (0 : Int) = ((0 : Nat) : Int) from rfl, TL.atI_nat]; rfl
  refine .cons (.for (L2.passes_of rfl) rfl ?_)
  refine WI.enum c.n_enumerate (.var 1 rfl ⟨_, rfl, ?_⟩)
  refine ForT.by (fun rest ρ M' => M' = mset M z (.ins (ga K "Cloth") []) ∧ (∃ x2 x3, ρ = [some (.ref z), some (.tup (rows.map D.str)), x2, x3]) ∧ ∀ d ∈ rest, ∃ (i : Int) (t : List Nat), t ∈ rows ∧ d = .tup [.int i, .str t]) ?_ ?_ ⟨rfl, ⟨none, none, rfl⟩, ?_⟩
  · rintro x xs ρ M' ⟨rfl, ⟨x5, x6, rfl⟩, hx⟩
    obtain ⟨i, t, ht, rfl⟩ := hx x (List.mem_cons_self ..)
    have o := ok.r2 t ht
    have tl : t.length ≤ 1000 := by omega
    refine .tup rfl (.cons (.name 2 (.cons (.name 3 (.nil ?_) s_Cloth_init.nd)) s_Cloth_init.nd))
    refine .skip (.ww (.or (.not (.val (.call (hr.mono (j := 1) (by omega)) c.g_is_pick c.f_is_pick.kp c.b_is_pick (.cons (.var 3 rfl (.nil ?_))))))))
    refine t_is_pick c tl ⟨fun e => ok.n0 (by rw [← o.1, e]; rfl), o.2⟩ ⟨_, rfl, fun z => (nomatch z), fun _ => ?_⟩
    refine .or1 (.cmp (.callB c.n_len rfl (.cons (.var 3 rfl (.nil ?_)))))
    refine VC.len (n := n) (by simp [lenD, o.1, sizeLine_eq]; omega) (.callB c.n_len rfl (.cons (.ix (.var 1 rfl (.int (.tup at0 (.nil ?_)))))))
    refine VC.len (n := n) (by simp [lenD, lr, sizeLine_eq]; omega) (.neI ⟨_, rfl, by simp, .done ?_⟩)
    exact ⟨rfl, ⟨_, _, rfl⟩, fun d hd => hx d (List.mem_cons_of_mem _ hd)⟩
  · rintro ρ M' ⟨rfl, ⟨x5, x6, rfl⟩, _⟩
    refine ⟨[some (.ref z), some (.tup (rows.map D.str)), none, none], by simp [Le], ?_⟩
    refine .cons (.fld (.var 1 rfl (.var 0 rfl ⟨z, _, _, rfl, mset_same, c.cls_Cloth, c.no_Cloth_picks, by decide, ?_⟩)))
    rw [mset_mset]
    refine .cons (.fld (.callB c.n_len rfl (.cons (.ix (.var 1 rfl (.int (.tup at0 (.nil ?_)))))))) 
    refine VC.len (n := n) (by simp [lenD, lr, sizeLine_eq]; omega) (.var 0 rfl ⟨z, _, _, rfl, mset_same, c.cls_Cloth, c.no_Cloth_ends, by simp [putD], ?_⟩)
    rw [mset_mset]
    refine .done ⟨rfl, _, mset_same, ?_⟩
    rw [mdel_mset hz]
    have e : (.ins (ga K "Cloth") (putD "ends" (.int n) (putD "picks" (.tup (rows.map D.str)) [])) : D) = clothD K rows := by
      unfold clothD
      rw [er, List.headD_cons, lr]
      rfl
    rw [e]
    exact h
  · intro d hd
    obtain ⟨i, hi, rfl⟩ := List.mem_map.mp hd
    rw [List.length_map] at hi
    have hi' := List.mem_range.mp hi
    refine ⟨i, rows[i], List.getElem_mem _, ?_⟩
    rw [List.getD_eq_getElem?_getD, List.getElem?_map, List.getElem?_eq_getElem hi']
    rfl
theorem t_Cloth_len (c : E81 w K mg base) {rows : List (List Nat)} (h : Q (.int rows.length) M) : TFn P81 w K mg base 1 (ma K (ga K "Cloth") "__len__") (fdOf K ("Cloth", some "__len__")) ["self"] [clothD K rows] M Q := by
  refine TFn.of c.f_Cloth_len s_Cloth_len rfl fun cdv A outer s H F hr => ?_
  refine .one (.ret (.callB c.n_len rfl (.cons (.fld (.var 0 rfl ⟨_, _, _, rfl, c.cls_Cloth, c.no_Cloth_picks, by rfl, .nil ?_⟩)))))
  exact VC.len (n := rows.length) (by simp [lenD]) h
theorem t_Cloth_eq (c : E81 w K mg base) {a b : List (List Nat)} {n m : Nat} (oa : CW a n) (ob : CW b m) (h : Q (.bl (decide (a = b))) M) : TFn P81 w K mg base 1 (ma K (ga K "Cloth") "__eq__") (fdOf K ("Cloth", some "__eq__")) ["self", "other"] [clothD K a, clothD K b] M Q := by
  refine TFn.of c.f_Cloth_eq s_Cloth_eq rfl fun cdv A outer s H F hr => ?_
  have u' := hr.room.units
  refine .one (.ret (.and (.callB c.n_isinstance rfl (.cons (.var 1 rfl (.cons (.cls c.g_Cloth (.nil ?_))))))))
  refine VC.isC c.is_Cloth c.kit_Cloth ⟨_, rfl, fun z => (nomatch z), fun _ => ?_⟩
  refine .one (.cmp (.fld (.var 0 rfl ⟨_, _, _, rfl, c.cls_Cloth, c.no_Cloth_picks, by rfl, ?_⟩)))
  refine .fld (.var 1 rfl ⟨_, _, _, rfl, c.cls_Cloth, c.no_Cloth_picks, by rfl, VO.eqD u' (shp_texts oa) (shp_texts ob) ?_⟩)
  rw [eqD_texts]
  exact h
/-- one pick -/
def pickOf (ends lift : List Int) : List Nat := ends.map fun e => if e ∈ lift then 120 else 45
theorem flat_ints (l : List Int) : (l.map D.int).all flatD = true := List.all_eq_true.mpr fun d hd => by
  obtain ⟨i, _, rfl⟩ := List.mem_map.mp hd
  rfl
theorem any_ints (l : List Int) (i : Int) : ((l.map D.int).any fun z => TL.eqD z (.int i)) = decide (i ∈ l) := by
  rw [List.any_map]
  by_cases h : i ∈ l
  · rw [decide_eq_true h, List.any_eq_true]
    exact ⟨i, h, by simp [TL.eqD, py, PyData.eqv]⟩
  · rw [decide_eq_false h, List.any_eq_false]
    intro x hx
    have : x ≠ i := fun e => h (e ▸ hx)
    simp [TL.eqD, py, PyData.eqv, this]
theorem t_pick_of (c : E81 w K mg base) {v : LW} (ok : v.Ok) {i : Nat} {l : List Int} (hi : v.lifts[i]? = some l) (h : Q (.str (pickOf v.ends l)) M) : TFn P81 w K mg base 2 (ga K "pick_of") (fdOf K ("pick_of", none)) ["loom", "letter"] [loomD K v, .str [97 + i]] M Q := by
  refine TFn.of c.f_pick_of s_pick_of rfl fun cdv A outer s H F hr => ?_
  obtain ⟨ta, va⟩ := c.v_ABOVE
  obtain ⟨tb, vb⟩ := c.v_BELOW
  have lt : i < v.lifts.length := (List.getElem?_eq_some_iff.mp hi).1
  have h1 := ok.e1
  refine .cons (.set 2 (.meth (hr.mono (j := 1) (by omega)) c.cls_Loom c.meth_lift_of c.b_Loom_lift_of (.var 0 rfl ⟨v.insF, rfl, rfl, .cons (.var 1 rfl (.nil ?_))⟩)) s_pick_of.nd)
  refine t_Loom_lift_of c lt ok.l1 fun l' hl' => ?_
  obtain rfl : l' = l := by rw [hi] at hl'; exact (Option.some.inj hl').symm
  refine .one (.ret (.bm PySem.F.plainAttrs_str PySem.F.slot_str_join PySem.F.type_str_join (.str ⟨.str, .cons ?_⟩)))
  refine WE.lc1 3 [("shaft", 3)] rfl s_pick_of.nd (show BlkOk n_pick_of (defScope (top 26)) _ _ from ⟨rfl, by decide +kernel, by decide +kernel, by decide +kernel, by decide +kernel⟩) ?_
  refine WI.tup (.fld (.var 0 rfl ⟨_, v.insF, _, rfl, c.cls_Loom, c.no_Loom_threading, by rfl, ⟨_, rfl, ?_⟩⟩))
  refine CompT.map (fun d => match d with | .int e => .str [if e ∈ l' then 120 else 45] | _ => .non) (fun x hx => ?_) (by rw [sizeLine_eq]; simp; omega) (.nil ?_)
  · obtain ⟨e, he, rfl⟩ := List.mem_map.mp hx
    refine ⟨_, rfl, fun s H C cl fp => .ife (.cmp (.var 3 rfl (.var 2 rfl (.inT rfl (flat_ints _) ⟨_, rfl, ?_⟩))))⟩
    rw [any_ints]
    refine ⟨fun z => ?_, fun z => ?_⟩
    · have := of_decide_eq_true z
      exact .globS va ⟨by simp [this, lit], rfl⟩
    · have := of_decide_eq_false z
      exact .globS vb ⟨by simp [this, lit], rfl⟩
  · have e : (v.ends.map D.int).map (fun d => match d with | .int e => D.str [if e ∈ l' then 120 else 45] | _ => .non) = (v.ends.map fun e => [if e ∈ l' then 120 else 45]).map D.str := by rw [List.map_map, List.map_map]; rfl
    rw [List.nil_append, e]
    have e2 : (v.ends.map fun e => [if e ∈ l' then 120 else 45]).flatten = pickOf v.ends l' := by
      unfold pickOf
      induction v.ends with
      | nil => rfl
      | cons a r ih => simp only [List.map_cons, List.flatten_cons, ih]; rfl
    refine VM.joinL ?_ ?_
    · have : ((v.ends.map fun e => [if e ∈ l' then 120 else 45]).map List.length).sum = v.ends.length := by
        rw [List.map_map]
        induction v.ends with
        | nil => rfl
        | cons a r ih => simp [ih]; omega
      omega
    · rw [e2]; exact h
end
end K81
end
section
set_option maxRecDepth 100000
/-! TU: what a dict that was filled holds. -/
namespace TL
open PySem PySem.Spec PyProof.Rows L2
section
variable {α : Type} {kvs : List (Key × α)} {k k' : Key} {v : α}
theorem lookK_nil : lookK ([] : List (Key × α)) k = none := rfl
theorem lookK_cons {p : Key × α} : lookK (p :: kvs) k = if p.1 = k then some p.2 else lookK kvs k := by
  unfold lookK
  rw [List.find?_cons]
  by_cases h : p.1 = k <;> simp [h]
theorem lookK_app : lookK (kvs ++ [(k, v)]) k' = match lookK kvs k' with
  | some u => some u
  | none => if k = k' then some v else none := by
  induction kvs with
  | nil => rw [List.nil_append, lookK_cons]; rfl
  | cons p r ih =>
    rw [List.cons_append, lookK_cons, lookK_cons]
    by_cases h : p.1 = k'
    · simp [h]
    · simp only [h, if_false]; exact ih
theorem lookK_map : lookK (kvs.map fun kv => if kv.1 = k then (kv.1, v) else kv) k' = if k = k' then (lookK kvs k').map (fun _ => v) else lookK kvs k' := by
  induction kvs with
  | nil => simp [lookK]
  | cons p r ih =>
    rw [List.map_cons, lookK_cons, lookK_cons, ih]
    by_cases h : p.1 = k
    · subst h
      by_cases h2 : p.1 = k'
      · simp [h2]
      · simp [h2]
    · by_cases h2 : k = k'
      · subst h2
        simp [h]
      · simp [h, h2]
theorem lookK_any : (kvs.any fun kv => decide (kv.1 = k)) = (lookK kvs k).isSome := by
  induction kvs with
  | nil => rfl
  | cons p r ih =>
    rw [List.any_cons, lookK_cons, ih]
    by_cases h : p.1 = k <;> simp [h]
theorem lookK_put : lookK (putG kvs k v) k' = if k = k' then some v else lookK kvs k' := by
  unfold putG
  rw [lookK_any]
  cases e : lookK kvs k with
  | some u =>
    rw [Option.isSome_some, if_pos rfl, lookK_map]
    by_cases h : k = k'
    · subst h; simp [e]
    · simp [h]
  | none =>
    rw [Option.isSome_none, if_neg Bool.false_ne_true, lookK_app]
    by_cases h : k = k'
    · subst h; simp [e]
    · simp only [h, if_false]
      cases lookK kvs k' <;> rfl
theorem lookK_merge {g : Key → α} : ∀ {kds acc : List (Key × α)}, (∀ p ∈ kds, p.2 = g p.1) → (k ∈ kds.map (·.1) ∨ lookK acc k = some (g k)) → lookK (mergeG acc kds) k = some (g k)
  | [], acc, _, h => by
    rcases h with h | h
    · cases h
    · exact h
  | p :: kds, acc, hp, h => by
    show lookK (mergeG (putG acc p.1 p.2) kds) k = _
    refine lookK_merge (fun q hq => hp q (List.mem_cons_of_mem _ hq)) ?_
    by_cases e : p.1 = k
    · right
      rw [lookK_put, if_pos e, hp p (List.mem_cons_self ..), e]
    · rcases h with h | h
      · rw [List.map_cons, List.mem_cons] at h
        rcases h with h | h
        · exact absurd h.symm e
        · exact .inl h
      · right
        rw [lookK_put, if_neg e]; exact h
end
end TL
end
section
set_option maxRecDepth 100000
set_option maxHeartbeats 0
/-! K81G: weaving. -/
namespace K81
open PySem PySem.Spec PyProof.Rows L2 TL
open He (ga ma fAd)
section
variable {w : World} {K : PySem.W.Frag} {mg : Str → Option Value} {base : Heap} {M : Mp} {Q : DQ}
theorem mem_alpha {c n : Nat} (hn : n ≤ 26) (h : c ∈ alpha.take n) : ∃ i, i < n ∧ c = 97 + i := by
  have : ∀ n, n ≤ 26 → ∀ c ∈ alpha.take n, 97 ≤ c ∧ c < 97 + n := by decide +kernel
  have := this n hn c h
  exact ⟨c - 97, by omega, by omega⟩
theorem mem_sU {x : Nat} {t : List Nat} : x ∈ sortN (uniq [] t) ↔ x ∈ t := by
  rw [(sortN_perm _).mem_iff, mem_uniq]; simp
/-- the pick of a sign -/
def rowOf (v : LW) (x : Nat) : List Nat := pickOf v.ends (v.lifts.getD (x - 97) [])
theorem t_woven (c : E81 w K mg base) {v : LW} (ok : v.Ok) {t : List Nat} (h0 : t ≠ []) (hl : t.length ≤ 1000) (ht : okTr v t = true) (h : Q (clothD K (t.map (rowOf v))) M) : TFn P81 w K mg base 6 (ga K "woven") (fdOf K ("woven", none)) ["loom", "treadling"] [loomD K v, .str t] M Q := by
  refine TFn.of c.f_woven s_woven rfl fun cdv A outer s H F hr => ?_
  have hu := hr.room.units
  have hu1 : (A.deeper (envOfC "woven" (defScope (top 27)) s.heap.objs.size (ga K "woven") cdv)).units + 1 < cLine := by omega
  refine .skip (.ww (.or (.not ?_)))
  refine .val (.call (hr.mono (j := 1) (by omega)) c.g_is_treadling c.f_is_treadling.kp c.b_is_treadling (.cons (.var 0 rfl (.cons (.var 1 rfl (.nil ?_))))))
  refine t_is_treadling c hl ?_
  rw [ht]
  refine ⟨_, rfl, fun z => (nomatch z), fun _ => ?_⟩
  refine .or1 (.cmp (.var 1 rfl (.str (VO.eqS ⟨_, rfl, by simpa [lit] using h0, ?_⟩))))
  refine .cons (.set 2 (.dc1 3 [("letter", 3)] rfl s_woven.nd (show BlkOk n_woven (defScope (top 27)) _ _ from ⟨rfl, by decide +kernel, by decide +kernel, by decide +kernel, by decide +kernel⟩) ?_) s_woven.nd)
  refine WI.list (WE.sortedSetS rfl c.n_sorted c.n_set (.var 1 rfl ⟨t, rfl, by show _ < 4096; omega, ?_⟩))
  refine ⟨_, rfl, ?_⟩
  refine DCompT.map (fun d => match d with | .str [x] => (.inr (sg x), .str (rowOf v x)) | _ => (.inl 0, .non)) (fun x hx => ?_) (by have h1 := (sortN_perm (uniq [] t)).length_eq; have h2 := uniq_len t []; rw [sizeLine_eq]; simp at h1 h2 ⊢; omega) ?_
  · obtain ⟨x, hx, rfl⟩ := List.mem_map.mp hx
    refine ⟨_, rfl, fun s H C cl fp => .var 3 rfl ⟨rfl, rfl⟩, fun s H C cl fp => .call (hr.mono (j := 2) (by omega)) c.g_pick_of c.f_pick_of.kp c.b_pick_of (.cons (.var 0 rfl (.cons (.var 3 rfl (.nil ?_)))))⟩
    have hx1 : x ∈ t := mem_sU.mp (by simpa using hx)
    have hx2 : x ∈ alpha.take v.lifts.length := of_decide_eq_true (List.all_eq_true.mp ht x hx1)
    obtain ⟨i, hi, rfl⟩ := mem_alpha ok.l1 hx2
    refine t_pick_of c ok (l := v.lifts.getD i []) (by rw [List.getD_eq_getElem?_getD, List.getElem?_eq_getElem hi]; rfl) ⟨?_, rfl⟩
    show D.str _ = D.str (rowOf v (97 + i))
    unfold rowOf
    rw [Nat.add_sub_cancel_left]
  refine .one (.ret (WE.make c.mk_Cloth (hr.mono (j := 4) (by omega)) c.g_Cloth c.b_Cloth_init (.cons (.callTy c.n_tuple rfl (.cons ?_)))))
  refine WE.lc1 3 [("letter", 3)] rfl s_woven.nd (show BlkOk n_woven (defScope (top 27)) _ _ from ⟨rfl, by decide +kernel, by decide +kernel, by decide +kernel, by decide +kernel⟩) ?_
  refine WI.str (.var 1 rfl ⟨t, rfl, ?_⟩)
  refine CompT.map (fun d => match d with | .str [x] => .str (rowOf v x) | _ => .non) (fun x hx => ?_) (by rw [sizeLine_eq]; simp; omega) (.nil ?_)
  · obtain ⟨x, hx, rfl⟩ := List.mem_map.mp hx
    have lk : lookK (mergeG [] (((sortN (uniq [] t)).map fun c => D.str [c]).map fun d => match d with | .str [x] => ((.inr (sg x) : Key), D.str (rowOf v x)) | _ => (.inl 0, .non))) (.inr (sg x)) = some (.str (rowOf v x)) := by
      refine lookK_merge (g := fun k => match k with | .inr s => D.str (rowOf v (s.cps.toList.headD 0)) | _ => D.non) (fun p hp => ?_) (.inl ?_)
      · simp only [List.map_map] at hp
        obtain ⟨y, _, rfl⟩ := List.mem_map.mp hp
        rfl
      · simp only [List.map_map]
        exact List.mem_map.mpr ⟨x, mem_sU.mpr (by simpa using hx), rfl⟩
    refine ⟨_, rfl, fun s H C cl fp => .ix (.var 2 rfl (.var 3 rfl (VI.get (k := .inr (sg x)) (d := .str (rowOf v x)) hu1 rfl lk ⟨rfl, rfl⟩)))⟩
  refine VC.tupleL ?_
  refine .nil fun z hz => ?_
  have e : (t.map fun c => D.str [c]).map (fun d => match d with | .str [x] => D.str (rowOf v x) | _ => .non) = (t.map (rowOf v)).map D.str := by rw [List.map_map, List.map_map]; rfl
  rw [List.nil_append, e]
  exact t_Cloth_init c (n := v.ends.length) ⟨by simpa using h0, by simpa using hl, by simpa using ok.e0, Nat.le_trans ok.e1 (by omega), fun r hr => by
    obtain ⟨x, _, rfl⟩ := List.mem_map.mp hr
    refine ⟨by simp [rowOf, pickOf], fun c hc => ?_⟩
    obtain ⟨e, _, rfl⟩ := List.mem_map.mp hc
    split <;> simp⟩ hz h
end
end K81
end
section
set_option maxRecDepth 100000
/-! TKd: loops by what was taken; kinds numbered in order. -/
namespace TL
open PySem PySem.Spec PyProof.Rows L2
/-- a for loop over items, by what holds behind the part taken -/
theorem ForT.map {X : Cx} {tg : Expr} {body : List Stmt} {E : TEs} {α : Type} (f : α → D) (P : List α → En → Mp → Prop) {items : List α}
    (step : ∀ pre x post ρ M, items = pre ++ x :: post → P pre ρ M → WG X tg (f x) ρ M fun ρ1 M1 => WSs X body ρ1 M1 { nx := P (pre ++ [x]), ct := P (pre ++ [x]), rt := E.rt, bk := E.nx })
    (done : ∀ ρ M, P items ρ M → ∃ ρt, Le ρt ρ ∧ E.nx ρt M) {ρ : En} {M : Mp} (h : P [] ρ M) : ForT X tg body E (items.map f) ρ M := by
  refine ForT.by (fun rest ρ M => ∃ pre post, items = pre ++ post ∧ rest = post.map f ∧ P pre ρ M) ?_ ?_ ⟨[], items, rfl, rfl, h⟩
  · rintro x xs ρ M ⟨pre, post, e, er, p⟩
    cases post with
    | nil => cases er
    | cons y post =>
      rw [List.map_cons] at er
      cases er
      refine WG.imp (step pre y post ρ M e p) fun ρ1 M1 w => w.imp (fun _ _ z => ?_) (fun _ _ z => z) (fun _ _ z => z) (fun _ _ z => ?_)
      · exact ⟨pre ++ [y], post, by rw [e, List.append_assoc]; rfl, rfl, z⟩
      · exact ⟨pre ++ [y], post, by rw [e, List.append_assoc]; rfl, rfl, z⟩
  · rintro ρ M ⟨pre, post, e, er, p⟩
    cases post with
    | nil => rw [List.append_nil] at e; rw [e] at done; exact done ρ M p
    | cons y post => cases er
/-- a comprehension that may write, by what holds behind the part taken -/
theorem CompT.step {X : Cx} {scope : Scope} {elt : Expr} {Q : DQ} {bind : D → Option En} {α : Type} (f : α → D) (P : List α → List D → Mp → Prop) {items : List α}
    (step : ∀ pre x post acc M, items = pre ++ x :: post → P pre acc M → ∃ ρ1, bind (f x) = some ρ1 ∧ (∀ s H C cl fp, WE (Blk X scope s H C cl fp) elt ρ1 M fun y M1 => P (pre ++ [x]) (acc ++ [y]) M1))
    (hl : items.length ≤ sizeLine) (q : ∀ acc M, P items acc M → Q (.lst acc) M) {M : Mp} (h : P [] [] M) : CompT X scope elt [] bind Q (items.map f) [] M := by
  have key : ∀ (post pre : List α) (acc : List D) (M : Mp), items = pre ++ post → acc.length = pre.length → P pre acc M → CompT X scope elt [] bind Q (post.map f) acc M := by
    intro post
    induction post with
    | nil =>
      intro pre acc M e _ p
      rw [List.append_nil] at e
      subst e
      exact q acc M p
    | cons x post ih =>
      intro pre acc M e ha p
      obtain ⟨ρ1, eb, w⟩ := step pre x post acc M e p
      refine ⟨?_, ρ1, eb, fun b' M' => b' = true ∧ M' = M, fun s H C cl fp => .nil ⟨rfl, rfl⟩, fun _ z => (nomatch z.1), fun M1 z => ?_⟩
      · rw [e] at hl
        simp at hl
        omega
      · obtain ⟨_, rfl⟩ := z
        exact ⟨_, w, fun y M2 hy => ih (pre ++ [x]) (acc ++ [y]) M2 (by rw [e, List.append_assoc]; rfl) (by simp [ha]) hy⟩
  exact key items [] [] M rfl rfl h
/-- .. whose test may write -/
theorem CompT.stepIf {X : Cx} {scope : Scope} {elt c : Expr} {Q : DQ} {bind : D → Option En} {α : Type} (f : α → D) (P : List α → List D → Mp → Prop) {items : List α}
    (step : ∀ pre x post acc M, items = pre ++ x :: post → P pre acc M → ∃ ρ1, bind (f x) = some ρ1 ∧ ∃ B : Bool → Mp → Prop, (∀ s H C cl fp, WT (Blk X scope s H C cl fp) c ρ1 M B) ∧ (∀ M1, B false M1 → P (pre ++ [x]) acc M1) ∧
      ∀ M1, B true M1 → (∀ s H C cl fp, WE (Blk X scope s H C cl fp) elt ρ1 M1 fun y M2 => P (pre ++ [x]) (acc ++ [y]) M2))
    (hl : items.length ≤ sizeLine) (q : ∀ acc M, P items acc M → Q (.lst acc) M) {M : Mp} (h : P [] [] M) : CompT X scope elt [c] bind Q (items.map f) [] M := by
  have key : ∀ (post pre : List α) (acc : List D) (M : Mp), items = pre ++ post → acc.length ≤ pre.length → P pre acc M → CompT X scope elt [c] bind Q (post.map f) acc M := by
    intro post
    induction post with
    | nil =>
      intro pre acc M e _ p
      rw [List.append_nil] at e
      subst e
      exact q acc M p
    | cons x post ih =>
      intro pre acc M e ha p
      obtain ⟨ρ1, eb, B, wb, q1, q2⟩ := step pre x post acc M e p
      refine ⟨?_, ρ1, eb, B, fun s H C cl fp => .one (wb s H C cl fp), fun M1 z => ?_, fun M1 z => ?_⟩
      · rw [e] at hl
        simp at hl
        omega
      · exact ih (pre ++ [x]) acc M1 (by rw [e, List.append_assoc]; rfl) (by simp; omega) (q1 M1 z)
      · exact ⟨_, q2 M1 z, fun y M2 hy => ih (pre ++ [x]) (acc ++ [y]) M2 (by rw [e, List.append_assoc]; rfl) (by simp; omega) hy⟩
  exact key items [] [] M rfl (Nat.le_refl _) h
section
variable {α : Type} [DecidableEq α]
theorem uniq_app : ∀ (l m acc : List α), uniq acc (l ++ m) = uniq (uniq acc l) m
  | [], m, acc => rfl
  | x :: l, m, acc => by
    show uniq _ (l ++ m) = uniq (uniq _ l) m
    rw [uniq_app l m]
theorem uniq_snoc (l : List α) (x : α) : uniq [] (l ++ [x]) = if x ∈ uniq [] l then uniq [] l else uniq [] l ++ [x] := by
  rw [uniq_app]; rfl
/-- what is numbered stays so -/
theorem uniq_pre : ∀ (l acc : List α), ∃ t, uniq acc l = acc ++ t
  | [], acc => ⟨[], by simp [uniq]⟩
  | x :: l, acc => by
    unfold uniq
    obtain ⟨t, e⟩ := uniq_pre l (if x ∈ acc then acc else acc ++ [x])
    rw [e]
    split
    · exact ⟨t, rfl⟩
    · exact ⟨x :: t, by rw [List.append_assoc]; rfl⟩
/-- the place of an item -/
def ixOf (u : List α) (x : α) : Nat := u.idxOf x
/-- the numbers of the kinds, in the order of their first ones -/
def kindsOf (l : List α) : List Int := l.map fun x => ((ixOf (uniq [] l) x : Nat) : Int)
def numD (f : α → Key) : List α → Nat → List (Key × D)
  | [], _ => []
  | x :: u, k => (f x, .int k) :: numD f u (k + 1)
theorem numD_len (f : α → Key) : ∀ (u : List α) (k : Nat), (numD f u k).length = u.length
  | [], _ => rfl
  | _ :: u, k => by simp [numD, numD_len f u]
theorem numD_snoc (f : α → Key) (x : α) : ∀ (u : List α) (k : Nat), numD f (u ++ [x]) k = numD f u k ++ [(f x, .int (k + u.length : Nat))]
  | [], k => by simp [numD]
  | y :: u, k => by
    rw [List.cons_append, numD, numD, numD_snoc f x u, List.cons_append, List.length_cons]
    rw [show k + 1 + u.length = k + (u.length + 1) by omega]
theorem lookK_num {f : α → Key} (hf : ∀ a b, f a = f b → a = b) (x : α) : ∀ (u : List α) (k : Nat), lookK (numD f u k) (f x) = if x ∈ u then some (.int (k + ixOf u x : Nat)) else none
  | [], k => by simp [numD, lookK]
  | y :: u, k => by
    rw [numD, lookK_cons, lookK_num hf x u]
    by_cases h : y = x
    · subst h
      simp [ixOf]
    · have h2 : ¬ f y = f x := fun z => h (hf _ _ z)
      have h3 : ¬ x = y := fun z => h z.symm
      simp only [h2, if_false, List.mem_cons, h3, false_or]
      split
      · unfold ixOf
        rw [List.idxOf_cons]
        have : (y == x) = false := by simpa using h
        simp only [this, cond_false]
        rw [show k + 1 + List.idxOf x u = k + (List.idxOf x u + 1) by omega]
      · rfl
theorem putG_num {f : α → Key} (hf : ∀ a b, f a = f b → a = b) {x : α} {u : List α} (h : x ∉ u) : putG (numD f u 0) (f x) (.int (u.length : Nat)) = numD f (u ++ [x]) 0 := by
  have e : lookK (numD f u 0) (f x) = none := by rw [lookK_num hf, if_neg h]
  unfold putG
  rw [lookK_any, e, Option.isSome_none, if_neg Bool.false_ne_true, numD_snoc, Nat.zero_add]
/-- .. with tuples as keys -/
def numX (f : α → D) : List α → Nat → List (D × D)
  | [], _ => []
  | x :: u, k => (f x, .int k) :: numX f u (k + 1)
theorem numX_len (f : α → D) : ∀ (u : List α) (k : Nat), (numX f u k).length = u.length
  | [], _ => rfl
  | _ :: u, k => by simp [numX, numX_len f u]
theorem numX_snoc (f : α → D) (x : α) : ∀ (u : List α) (k : Nat), numX f (u ++ [x]) k = numX f u k ++ [(f x, .int (k + u.length : Nat))]
  | [], k => by simp [numX]
  | y :: u, k => by
    rw [List.cons_append, numX, numX, numX_snoc f x u, List.cons_append, List.length_cons]
    rw [show k + 1 + u.length = k + (u.length + 1) by omega]
theorem lookX_cons {p : D × D} {ds : List (D × D)} {k : NestedKey} : lookX (p :: ds) k = if nkey p.1 = some k then some p.2 else lookX ds k := by
  unfold lookX
  rw [List.find?_cons]
  by_cases h : nkey p.1 = some k <;> simp [h]
theorem lookX_num {f : α → D} {g : α → NestedKey} (hg : ∀ a, nkey (f a) = some (g a)) (hf : ∀ a b, g a = g b → a = b) (x : α) : ∀ (u : List α) (k : Nat), lookX (numX f u k) (g x) = if x ∈ u then some (.int (k + ixOf u x : Nat)) else none
  | [], k => by simp [numX, lookX]
  | y :: u, k => by
    rw [numX, lookX_cons, lookX_num hg hf x u, hg]
    by_cases h : y = x
    · subst h
      simp [ixOf]
    · have h2 : ¬ some (g y) = some (g x) := fun z => h (hf _ _ (Option.some.inj z))
      have h3 : ¬ x = y := fun z => h z.symm
      simp only [h2, if_false, List.mem_cons, h3, false_or]
      split
      · unfold ixOf
        rw [List.idxOf_cons]
        have : (y == x) = false := by simpa using h
        simp only [this, cond_false]
        rw [show k + 1 + List.idxOf x u = k + (List.idxOf x u + 1) by omega]
      · rfl
end
theorem nkeys_map {α : Type} {f : α → D} {g : α → NestedKey} (h : ∀ a, nkey (f a) = some (g a)) : ∀ l : List α, nkeys (l.map f) = some (l.map g)
  | [] => rfl
  | x :: l => by
    rw [List.map_cons, nkeys, h x, nkeys_map h l]
    rfl
section
variable {X : Cx} {M : Mp} {ρ : En} {Q : DQ} {E : TEs} {pos : Pos}
/-- t.index(i) of ints -/
theorem VM.tindexI {ns : List Int} {k : Int} (hk : k ∈ ns) (h : Q (.int (ns.idxOf k : Nat)) M) : VM X "tuple.index" (.tup (ns.map D.int)) [.int k] M Q := by
  intro pins s σ H F v u vs us I R r1 p1 r2 p2
  cases p2 with
  | cons q p2 =>
    cases p2
    cases q
    cases r2 with
    | cons a1 r2 =>
      cases r2
      cases p1 with
      | tup hq hr =>
        obtain rfl := reps_ints hr
        cases r1
        obtain ⟨its, rv, ht, hz⟩ := I.tuple (R.sub.sqT hq)
        obtain ⟨t, rfl⟩ := a1
        exact PySem.SeqAt.tuple_index_ints ht (intsAre_of rv) hk ⟨.int (ns.idxOf k : Nat), H, F, M, _, I.tok _, ⟨_, rfl⟩, Stp.refl R, .int _, h⟩
/-- tuple(l): the tuple has no dict -/
theorem call_tuple_frz {X : Cx} : CallR X (.type "tuple") (fun xs H Q => ∃ p ys, xs = [.ref p] ∧ SqL X.K H p ys ∧ ∀ l o, H l = none → o.dict = none → o.cls = .type "tuple" → Q (.ref l) (upd H l (.frz o (.tup ys)))) := by
  intro pins s σ H xs us Q I r h
  obtain ⟨p, ys, rfl, hq, q⟩ := h
  obtain ⟨u, rfl, rx⟩ := vals1 r
  cases rx
  obtain ⟨its, r', pl, hz⟩ := I.list hq
  have hlen := r'.length
  refine call_tuple_list pl.isList (fun h' kp => ?_) (by have := sizeLine_eq; simp only [List.size_toArray] <;> omega)
  have I1 : Inv X pins σ H { s with heap := h' } := I.kept (t' := s.toks) kp
  have I2 : Inv X pins σ (upd H h'.objs.size (.frz { cls := .type "tuple", data := .seq its.toArray } (.tup ys))) { s with heap := h'.push { cls := .type "tuple", data := .seq its.toArray } } :=
    I1.laid (t' := s.toks) (fun b o e => Heap.get?_push_of_some _ e) (Nat.le_refl _) ⟨Heap.get?_push_size _ rfl, show ObjOk X.prog X.w _ _ _ (.tup ys) from ⟨hz, its, r', IsTup.new _ _⟩⟩
  exact ⟨.ref h'.objs.size, _, I2, rfl, q _ _ (I1.hok.fresh (Nat.le_refl _)) rfl rfl⟩
theorem VC.tupleN {xs : List D} (h : Q (.tun xs) M) : VC X (.type "tuple") [.lst xs] M Q :=
  .call call_tuple_frz fun H F vs R p => by
    cases p with
    | cons q p =>
      cases p
      cases q with
      | @lst _ ws _ s r =>
        refine ⟨_, ws, rfl, .inl (R.sub.rd s), fun l o hl hd hc => ?_⟩
        have t := Stp.new (o := .frz o (.tup ws)) R hl
        exact ⟨_, M, _, t, .tun upd_same hd hc (t.reps r), h⟩
/-- .. is a tuple -/
theorem Rep.soft {K : PySem.W.Frag} {F : Hp} {v : V} {ds : List D} (h : Rep K F v (.tun ds)) : Rep K F v (.tup ds) := by
  cases h with
  | tun h h1 h2 r => exact .tup (.inl (.inr ⟨_, h⟩)) r
theorem WE.soft {e : Expr} (h : WE X e ρ M fun d M1 => ∃ ds, d = .tun ds ∧ Q (.tup ds) M1) : WE X e ρ M Q :=
  ⟨fun pins s σ H F I S => thn (h.run pins s σ H F I S) fun u s1 ⟨v, H1, F1, M1, d, I1, r1, t1, p1, ds, e, q⟩ => by
    subst e
    exact ⟨v, H1, F1, M1, _, I1, r1, t1, p1.soft, q⟩⟩
theorem TyIs.tun {xs : List D} : TyIs X M (.tun xs) "tuple" := fun pins s σ H F v u I R r p => by
  cases p with
  | tun h h1 h2 hr =>
    cases r
    obtain ⟨ho, _⟩ := I.hok _ _ (R.sub _ _ h)
    exact ⟨⟨_, ho, h2⟩, fun a e => by cases e; exact ⟨_, ho, h1⟩⟩
theorem VM.soft {id : String} {ds xs : List D} (h : VM X id (.tup ds) xs M Q) : VM X id (.tun ds) xs M Q := fun pins s σ H F v u vs us I R r1 p1 r2 p2 => h pins s σ H F v u vs us I R r1 p1.soft r2 p2
theorem WS.setN {n : Str} (i : Nat) {e : Expr} {pos' : Pos} (hN : X.N.Nodup) (h : WE X e ρ M fun x M1 => E.nx (ρ.set i (some x)) M1) (hi : X.N[i]? = some n := by rfl) (hx : Loc X.env.scope n := by first | exact .inl rfl | exact .inr rfl)
    (hs : swapsWith e (some (.Name n pos')) pos.line X.env = pure false := by rfl) (hf : X.fn n = true ∨ X.env.scope.names.lookup n = some .local := by first | exact .inl rfl | exact .inr rfl) : WS X (.Assign [.Name n pos'] e pos) ρ M E := .set i h hN hi hx hs hf
theorem WG.nameN {n : Str} {x : D} {R : En → Mp → Prop} (i : Nat) (hN : X.N.Nodup) (h : R (ρ.set i (some x)) M) (hi : X.N[i]? = some n := by rfl) (hx : Loc X.env.scope n := by first | exact .inl rfl | exact .inr rfl)
    (hf : X.fn n = true ∨ X.env.scope.names.lookup n = some .local := by first | exact .inl rfl | exact .inr rfl) : WG X (.Name n pos) x ρ M R := .name i h hN hi hx hf
/-- what is written no more, and asked no more -/
theorem Stp.drop {K : PySem.W.Frag} {H F : Hp} {M : Mp} (p : Addr) (r : Good K H F M) : Stp K H F M H F (mdel M p) := by
  refine ⟨fun b o h n => ⟨h, ?_⟩, Sub.refl F, fun b o h => .inl h, r.sub, fun b m h => ?_, fun a m h => ?_⟩
  · unfold mdel; split
    · rfl
    · exact n
  · unfold mdel at h; split at h
    · cases h
    · exact r.dis b m h
  · unfold mdel at h; split at h
    · cases h
    · exact r.real a m h
theorem WE.drop {e : Expr} (p : Addr) (h : WE X e ρ M fun d M1 => Q d (mdel M1 p)) : WE X e ρ M Q :=
  ⟨fun pins s σ H F I S => thn (h.run pins s σ H F I S) fun u s1 ⟨v, H1, F1, M1, d, I1, r1, t1, p1, q⟩ => ⟨v, H1, F1, _, d, I1, r1, t1.trans (Stp.drop p t1.good), p1, q⟩⟩
/-- over a list or a tuple, whichever it is -/
theorem WI.sq {tg e : Expr} {R : List D → Mp → Prop} {d : D} {xs : List D} (hd : d = .lst xs ∨ d = .tup xs) (h : WE X e ρ M fun d' M1 => d' = d ∧ R xs M1) : WI X tg e ρ M R := by
  rcases hd with rfl | rfl
  · exact WI.list (h.imp fun d' M1 ⟨e, q⟩ => ⟨xs, e, q⟩)
  · exact WI.tup (h.imp fun d' M1 ⟨e, q⟩ => ⟨xs, e, q⟩)
/-- a, b = x, y -/
theorem WS.par {x y : Str} {a b : Expr} {px py pt : Pos} {kt k2 pt2} (i j : Nat) (hc : X.calm = true) (hN : X.N.Nodup) (h : WA X [a, b] ρ M fun xs M1 => ∃ v w, xs = [v, w] ∧ E.nx ((ρ.set i (some v)).set j (some w)) M1)
    (hi : X.N[i]? = some x := by rfl) (hj : X.N[j]? = some y := by rfl) (hij : i ≠ j := by decide) (hx : X.env.scope.names.lookup x = some .local := by rfl) (hy : X.env.scope.names.lookup y = some .local := by rfl)
    (hw : swappedStores [.Tuple [.Name x px, .Name y py] kt pt] (.Tuple [a, b] k2 pt2) X.env = pure (some [x, y]) := by rfl)
    (hs : swapsWithSole [.Tuple [.Name x px, .Name y py] kt pt] (.Tuple [a, b] k2 pt2) pos.line X.env = pure false := by rfl) :
    WS X (.Assign [.Tuple [.Name x px, .Name y py] kt pt] (.Tuple [a, b] k2 pt2) pos) ρ M E :=
  .ps (ps_par hc hN hi hj hij hx hy lTA_ok hw hs) fun σ H F S => ⟨F, M, ρ, _, S, h, fun vs H' F' M' ds t rp ⟨v, w, e, q⟩ => by
    subst e
    cases rp with
    | cons r1 rp =>
      cases rp with
      | cons r2 rp =>
        cases rp
        exact ⟨_, _, rfl, F', M', _, t, ((S.step t).set i r1).set j r2, q⟩⟩
/-- a, b, c = x, y, z -/
theorem WS.par3 {x y z : Str} {a b c : Expr} {px py pz pt : Pos} {kt k2 pt2} (i j l : Nat) (hc : X.calm = true) (hN : X.N.Nodup) (h : WA X [a, b, c] ρ M fun xs M1 => ∃ u v w, xs = [u, v, w] ∧ E.nx (((ρ.set i (some u)).set j (some v)).set l (some w)) M1)
    (hi : X.N[i]? = some x := by rfl) (hj : X.N[j]? = some y := by rfl) (hl : X.N[l]? = some z := by rfl) (hij : i ≠ j := by decide) (hil : i ≠ l := by decide) (hjl : j ≠ l := by decide)
    (hx : X.env.scope.names.lookup x = some .local := by rfl) (hy : X.env.scope.names.lookup y = some .local := by rfl) (hz : X.env.scope.names.lookup z = some .local := by rfl)
    (hw : swappedStores [.Tuple [.Name x px, .Name y py, .Name z pz] kt pt] (.Tuple [a, b, c] k2 pt2) X.env = pure (some [x, y, z]) := by rfl)
    (hs : swapsWithSole [.Tuple [.Name x px, .Name y py, .Name z pz] kt pt] (.Tuple [a, b, c] k2 pt2) pos.line X.env = pure false := by rfl) :
    WS X (.Assign [.Tuple [.Name x px, .Name y py, .Name z pz] kt pt] (.Tuple [a, b, c] k2 pt2) pos) ρ M E :=
  .ps (ps_par3 hc hN hi hj hl hij hil hjl hx hy hz lTA_ok hw hs) fun σ H F S => ⟨F, M, ρ, _, S, h, fun vs H' F' M' ds t rp ⟨u, v, w, e, q⟩ => by
    subst e
    cases rp with
    | cons r1 rp =>
      cases rp with
      | cons r2 rp =>
        cases rp with
        | cons r3 rp =>
          cases rp
          exact ⟨_, _, _, rfl, F', M', _, t, (((S.step t).set i r1).set j r2).set l r3, q⟩⟩
end
end TL
end
section
set_option maxRecDepth 100000
set_option maxHeartbeats 0
/-! K81H: kinds. -/
namespace K81
open PySem PySem.Spec PyProof.Rows L2 TL
open He (ga ma fAd)
abbrev tk (t : List Nat) : Key := .inr ⟨t.toArray⟩
theorem tk_inj (a b : List Nat) (h : tk a = tk b) : a = b := by
  have h1 := Sum.inr.inj h
  have h2 : a.toArray = b.toArray := by injection h1
  simpa using h2
theorem kinds_len {α : Type} [DecidableEq α] (l : List α) : (kindsOf l).length = l.length := by simp [kindsOf]
/-- an item as a key of tuples -/
structure KeyN {α : Type} (f : α → D) (g : α → NestedKey) : Prop where
  tu : ∀ a, ∃ ys, f a = .tup ys
  k : ∀ a, nkey (f a) = some (g a)
  inj : ∀ a b, g a = g b → a = b
  dep : ∀ a, (g a).depth ≤ 8
section
variable {w : World} {K : PySem.W.Frag} {mg : Str → Option Value} {base : Heap} {M : Mp} {Q : DQ}
/-- the numbers of the kinds of texts -/
theorem t_kinds_txt (c : E81 w K mg base) {d : D} {ts : List (List Nat)} (hd : d = .lst (ts.map D.str) ∨ d = .tup (ts.map D.str)) (hl : ts.length ≤ 1000) (h : Q (.tun ((kindsOf ts).map D.int)) M) :
    TFn P81 w K mg base 1 (ga K "kinds_in_order") (fdOf K ("kinds_in_order", none)) ["items"] [d] M Q := by
  refine TFn.of c.f_kinds_in_order s_kinds_in_order rfl fun cdv A outer s H F hr => ?_
  have hu := hr.room.units
  have hu1 : (A.deeper (envOfC "kinds_in_order" (defScope (top 30)) s.heap.objs.size (ga K "kinds_in_order") cdv)).units + 1 < cLine := by omega
  refine .cons (.set 1 (.dicM fun p hp => ?_) s_kinds_in_order.nd)
  refine .cons (.for (L2.passes_of rfl) rfl ?_)
  refine WI.sq hd (.var 0 rfl ⟨rfl, ?_⟩)
  refine ForT.map D.str (fun pre ρ M' => (∃ x2, ρ = [some d, some (.ref p), x2]) ∧ M' = mset M p (.dic (numD tk (uniq [] pre) 0))) ?_ ?_ ⟨⟨none, rfl⟩, rfl⟩
  · rintro pre x post ρ M' e ⟨⟨x2, rfl⟩, rfl⟩
    have hlen : (numD tk (uniq [] pre) 0).length = (uniq [] pre).length := numD_len ..
    have hpl : (uniq [] pre).length ≤ 1000 := by
      have := uniq_len pre []
      have : pre.length ≤ ts.length := by rw [e]; simp
      simp at *; omega
    refine .name 2 ?_ s_kinds_in_order.nd
    refine .one (.expr (.bm PySem.F.plainAttrs_dict PySem.F.slot_dict_setdefault PySem.F.type_dict_setdefault (.var 1 rfl ⟨.dicM mset_same, .cons (.var 2 rfl (.cons (.callB c.n_len rfl (.cons (.var 1 rfl (.nil (VC.lenD mset_same (.nil ?_))))))))⟩)))
    refine VM.setdef mset_same (keyV_str x).symm (by rw [hlen, sizeLine_eq]; omega) (fun d' hd' => ?_) (fun hd' => ?_)
    · rw [lookK_num tk_inj] at hd'
      refine ⟨⟨_, rfl⟩, ?_⟩
      rw [uniq_snoc]
      split at hd'
      · rename_i hx; rw [if_pos hx]
      · cases hd'
    · rw [lookK_num tk_inj] at hd'
      refine ⟨⟨_, rfl⟩, ?_⟩
      rw [uniq_snoc]
      split at hd'
      · cases hd'
      · rename_i hx
        rw [if_neg hx, mset_mset, hlen, putG_num tk_inj hx]
  · rintro ρ M' ⟨⟨x2, rfl⟩, rfl⟩
    refine ⟨[some d, some (.ref p), none], by simp [Le], ?_⟩
    refine .one (.ret (.drop p (.callTy c.n_tuple rfl (.cons ?_))))
    refine WE.lc1 2 [("item", 2)] rfl s_kinds_in_order.nd (show BlkOk n_kinds_in_order (defScope (top 30)) _ _ from ⟨rfl, by decide +kernel, by decide +kernel, by decide +kernel, by decide +kernel⟩) ?_
    refine WI.sq hd (.var 0 rfl ⟨rfl, ?_⟩)
    refine CompT.step D.str (fun pre acc M' => acc = pre.map (fun x => D.int ((ixOf (uniq [] ts) x : Nat) : Int)) ∧ M' = mset M p (.dic (numD tk (uniq [] ts) 0))) ?_ (by rw [sizeLine_eq]; omega) ?_ ⟨rfl, rfl⟩
    · rintro pre x post acc M' e ⟨rfl, rfl⟩
      have hx : x ∈ ts := by rw [e]; simp
      refine ⟨_, rfl, fun s H C cl fp => .ix (.var 1 rfl (.var 2 rfl (VI.getM hu1 mset_same (keyV_str x).symm (d := .int ((ixOf (uniq [] ts) x : Nat) : Int)) ?_ ⟨by simp, rfl⟩)))⟩
      rw [lookK_num tk_inj, if_pos (mem_uniq.mpr (.inr hx)), Nat.zero_add]
    · rintro acc M' ⟨rfl, rfl⟩
      refine .nil (VC.tupleN ?_)
      have e : ts.map (fun x => D.int ((ixOf (uniq [] ts) x : Nat) : Int)) = (kindsOf ts).map D.int := by
        unfold kindsOf
        rw [List.map_map]; rfl
      rw [e]
      rw [mdel_mset hp]
      exact h
/-- .. of tuples -/
theorem t_kinds_tup (c : E81 w K mg base) {α : Type} [DecidableEq α] {f : α → D} {g : α → NestedKey} (kn : KeyN f g) {d : D} {ts : List α} (hd : d = .lst (ts.map f) ∨ d = .tup (ts.map f)) (hl : ts.length ≤ 1000) (h : Q (.tun ((kindsOf ts).map D.int)) M) :
    TFn P81 w K mg base 1 (ga K "kinds_in_order") (fdOf K ("kinds_in_order", none)) ["items"] [d] M Q := by
  refine TFn.of c.f_kinds_in_order s_kinds_in_order rfl fun cdv A outer s H F hr => ?_
  refine .cons (.set 1 (.kdM fun p hp => ?_) s_kinds_in_order.nd)
  refine .cons (.for (L2.passes_of rfl) rfl ?_)
  refine WI.sq hd (.var 0 rfl ⟨rfl, ?_⟩)
  refine ForT.map f (fun pre ρ M' => (∃ x2, ρ = [some d, some (.ref p), x2]) ∧ M' = mset M p (.kd w (numX f (uniq [] pre) 0))) ?_ ?_ ⟨⟨none, rfl⟩, rfl⟩
  · rintro pre x post ρ M' e ⟨⟨x2, rfl⟩, rfl⟩
    have hlen : (numX f (uniq [] pre) 0).length = (uniq [] pre).length := numX_len ..
    have hpl : (uniq [] pre).length ≤ 1000 := by
      have := uniq_len pre []
      have : pre.length ≤ ts.length := by rw [e]; simp
      simp at *; omega
    refine .name 2 ?_ s_kinds_in_order.nd
    refine .one (.expr (.bm PySem.F.plainAttrs_dict PySem.F.slot_dict_setdefault PySem.F.type_dict_setdefault (.var 1 rfl ⟨.kd mset_same, .cons (.var 2 rfl (.cons (.callB c.n_len rfl (.cons (.var 1 rfl (.nil (VC.lenX mset_same (.nil ?_))))))))⟩)))
    refine VM.setdefX hr mset_same (kn.k x) (kn.tu x) (kn.dep x) (by rw [hlen, sizeLine_eq]; omega) (fun d' hd' => ?_) (fun hd' => ?_)
    · rw [lookX_num kn.k kn.inj] at hd'
      refine ⟨⟨_, rfl⟩, ?_⟩
      rw [uniq_snoc]
      split at hd'
      · rename_i hx; rw [if_pos hx]
      · cases hd'
    · rw [lookX_num kn.k kn.inj] at hd'
      refine ⟨⟨_, rfl⟩, ?_⟩
      rw [uniq_snoc]
      split at hd'
      · cases hd'
      · rename_i hx
        rw [if_neg hx, mset_mset, hlen, numX_snoc, Nat.zero_add]
        rfl
  · rintro ρ M' ⟨⟨x2, rfl⟩, rfl⟩
    refine ⟨[some d, some (.ref p), none], by simp [Le], ?_⟩
    refine .one (.ret (.drop p (.callTy c.n_tuple rfl (.cons ?_))))
    refine WE.lc1 2 [("item", 2)] rfl s_kinds_in_order.nd (show BlkOk n_kinds_in_order (defScope (top 30)) _ _ from ⟨rfl, by decide +kernel, by decide +kernel, by decide +kernel, by decide +kernel⟩) ?_
    refine WI.sq hd (.var 0 rfl ⟨rfl, ?_⟩)
    refine CompT.step f (fun pre acc M' => acc = pre.map (fun x => D.int ((ixOf (uniq [] ts) x : Nat) : Int)) ∧ M' = mset M p (.kd w (numX f (uniq [] ts) 0))) ?_ (by rw [sizeLine_eq]; omega) ?_ ⟨rfl, rfl⟩
    · rintro pre x post acc M' e ⟨rfl, rfl⟩
      have hx : x ∈ ts := by rw [e]; simp
      refine ⟨_, rfl, fun s H C cl fp => .ix (.var 1 rfl (.var 2 rfl (VI.getX hr mset_same (kn.k x) (kn.tu x) (kn.dep x) (d := .int ((ixOf (uniq [] ts) x : Nat) : Int)) ?_ ⟨by simp, rfl⟩)))⟩
      rw [lookX_num kn.k kn.inj, if_pos (mem_uniq.mpr (.inr hx)), Nat.zero_add]
    · rintro acc M' ⟨rfl, rfl⟩
      refine .nil (VC.tupleN ?_)
      have e : ts.map (fun x => D.int ((ixOf (uniq [] ts) x : Nat) : Int)) = (kindsOf ts).map D.int := by
        unfold kindsOf
        rw [List.map_map]; rfl
      rw [e]
      rw [mdel_mset hp]
      exact h
end
end K81
end
section
set_option maxRecDepth 100000
set_option maxHeartbeats 0
/-! K81I: kinds of ends and picks. -/
namespace K81
open PySem PySem.Spec PyProof.Rows L2 TL
open He (ga ma fAd)
/-- the first place of each kind -/
def firstsOf (ns : List Int) : List Int := (List.range (uniq [] ns).length).map fun (k : Nat) => ((ixOf ns (k : Int) : Nat) : Int)
/-- the signs of the ends -/
def colsOf (rows : List (List Nat)) (n : Nat) : List (List Nat) := (List.range n).map fun j => rows.map fun r => r.getD j 0
theorem once_ints (ns : List Int) : (onceK [] (ns.map (Sum.inl : Int → Key))).length = (uniq [] ns).length := by
  have := once_map (f := (Sum.inl : Int → Key)) (fun a b h => Sum.inl.inj h) ns []
  rw [List.map_nil] at this
  rw [this, List.length_map]
theorem flat_signs (cs : List Nat) : (cs.map fun c => [c]).flatten = cs := by
  induction cs with
  | nil => rfl
  | cons c cs ih => rw [List.map_cons, List.flatten_cons, ih]; rfl
section
variable {w : World} {K : PySem.W.Frag} {mg : Str → Option Value} {base : Heap} {M : Mp} {Q : DQ}
theorem t_firsts (c : E81 w K mg base) {ns : List Int} (hl : ns.length ≤ 1000) (hk : ∀ k : Nat, k < (uniq [] ns).length → (k : Int) ∈ ns) (h : Q (.lst ((firstsOf ns).map D.int)) M) :
    TFn P81 w K mg base 1 (ga K "firsts_of_kinds") (fdOf K ("firsts_of_kinds", none)) ["kinds"] [.tun (ns.map D.int)] M Q := by
  refine TFn.of c.f_firsts_of_kinds s_firsts_of_kinds rfl fun cdv A outer s H F hr => ?_
  have ul := uniq_len ns []
  simp at ul
  refine .one (.ret (WE.lc1 1 [("kind", 1)] rfl s_firsts_of_kinds.nd (show BlkOk n_firsts_of_kinds (defScope (top 31)) _ _ from ⟨rfl, by decide +kernel, by decide +kernel, by decide +kernel, by decide +kernel⟩) ?_))
  refine WI.range1 c.n_range (.lenSet rfl c.n_len c.n_set (.soft (.var 0 rfl ⟨_, rfl, _, .tupI ns, by rw [List.length_map]; show _ < 4096; omega, ?_⟩)))
  rw [once_ints]
  refine ⟨_, rfl, by omega, by omega, ?_⟩
  rw [Int.toNat_natCast]
  unfold rng
  refine CompT.step (fun (i : Nat) => D.int (0 + (i : Int))) (fun pre acc M' => acc = pre.map (fun (k : Nat) => D.int ((ixOf ns (k : Int) : Nat) : Int)) ∧ M' = M) ?_ (by rw [List.length_range, sizeLine_eq]; omega) ?_ ⟨rfl, rfl⟩
  · rintro pre x post acc M' e ⟨rfl, rfl⟩
    have hx : x ∈ List.range (uniq [] ns).length := by rw [e]; simp
    have hx2 := hk x (List.mem_range.mp hx)
    refine ⟨_, rfl, fun s H C cl fp => .bm PySem.F.plainAttrs_tuple PySem.F.slot_tuple_index PySem.F.type_tuple_index (.var 0 rfl ⟨.tun, .cons (.var 1 rfl (.nil (.soft ?_)))⟩)⟩
    rw [Int.zero_add]
    refine VM.tindexI hx2 ⟨?_, rfl⟩
    rw [List.map_append]
    rfl
  · rintro acc M' ⟨rfl, rfl⟩
    have e : (List.range (uniq [] ns).length).map (fun (k : Nat) => D.int ((ixOf ns (k : Int) : Nat) : Int)) = (firstsOf ns).map D.int := by
      unfold firstsOf
      rw [List.map_map]; rfl
    rw [e]
    exact h
theorem t_signs_of_ends (c : E81 w K mg base) {rows : List (List Nat)} {n : Nat} (ok : CW rows n) (h : Q (.lst ((colsOf rows n).map D.str)) M) :
    TFn P81 w K mg base 1 (ga K "signs_of_ends") (fdOf K ("signs_of_ends", none)) ["cloth"] [clothD K rows] M Q := by
  refine TFn.of c.f_signs_of_ends s_signs_of_ends rfl fun cdv A outer s H F hr => ?_
  have r1 := ok.r1
  have n1 := ok.n1
  have hh : (rows.headD []).length = n := by
    cases e : rows with
    | nil => exact absurd e ok.r0
    | cons r rs => exact (ok.r2 r (by rw [e]; exact List.mem_cons_self ..)).1
  refine .one (.ret (WE.lc1 2 [("end", 2)] rfl s_signs_of_ends.nd (show BlkOk n_signs_of_ends (defScope (top 32)) _ _ from ⟨rfl, by decide +kernel, by decide +kernel, by decide +kernel, by decide +kernel⟩) ?_))
  refine WI.range1 c.n_range (.fld (.var 0 rfl ⟨_, _, _, rfl, c.cls_Cloth, c.no_Cloth_ends, by rfl, _, rfl, by omega, by omega, ?_⟩))
  rw [Int.toNat_natCast, hh]
  unfold rng
  refine CompT.step (fun (i : Nat) => D.int (0 + (i : Int))) (fun pre acc M' => acc = pre.map (fun (j : Nat) => D.str (rows.map fun r => r.getD j 0)) ∧ M' = M) ?_ (by rw [List.length_range, sizeLine_eq]; omega) ?_ ⟨rfl, rfl⟩
  · rintro pre j post acc M' e ⟨rfl, rfl⟩
    have hx : j ∈ List.range n := by rw [e]; simp
    have hj := List.mem_range.mp hx
    refine ⟨_, rfl, fun s H C cl fp => .bm PySem.F.plainAttrs_str PySem.F.slot_str_join PySem.F.type_str_join (.str ⟨.str, .cons ?_⟩)⟩
    refine WE.lc1 1 [("pick", 1)] rfl s_signs_of_ends.nd (blkOk_by (by rfl)) ?_
    refine WI.tup (.fld (.var 0 rfl ⟨_, _, _, rfl, c.cls_Cloth, c.no_Cloth_picks, by rfl, _, rfl, ?_⟩))
    refine CompT.step D.str (fun pre acc M2 => acc = pre.map (fun r => D.str [r.getD j 0]) ∧ M2 = M') ?_ (by rw [sizeLine_eq]; omega) ?_ ⟨rfl, rfl⟩
    · rintro pre r post acc M' e ⟨rfl, rfl⟩
      have hr2 : r ∈ rows := by rw [e]; simp
      have hl := (ok.r2 r hr2).1
      refine ⟨_, rfl, fun s H C cl fp => .ix (.var 1 rfl (.var 2 rfl ?_))⟩
      rw [Int.zero_add]
      refine VI.str (c := r.getD j 0) (by rw [sizeLine_eq]; omega) ?_ ⟨by simp, rfl⟩
      rw [TL.atI_nat, List.getD_eq_getElem?_getD, List.getElem?_eq_getElem (by omega)]
      rfl
    · rintro acc M' ⟨rfl, rfl⟩
      refine .nil ?_
      have e2 : rows.map (fun r => D.str [r.getD j 0]) = (rows.map fun r => [r.getD j 0]).map D.str := by rw [List.map_map]; rfl
      have e3 : (rows.map fun r => [r.getD j 0]).flatten = rows.map fun r => r.getD j 0 := by
        rw [← flat_signs (rows.map fun r => r.getD j 0), List.map_map]; rfl
      rw [e2]
      refine VM.joinL ?_ ⟨?_, rfl⟩
      · rw [List.map_map]
        have : ∀ l : List (List Nat), (l.map (List.length ∘ fun r => [r.getD j 0])).sum = l.length := by
          intro l
          induction l with
          | nil => rfl
          | cons a l ih => rw [List.map_cons, List.sum_cons, ih]; simp; omega
        rw [this]; omega
      · rw [e3, List.map_append]; rfl
  · rintro acc M' ⟨rfl, rfl⟩
    have e : (List.range n).map (fun (j : Nat) => D.str (rows.map fun r => r.getD j 0)) = (colsOf rows n).map D.str := by
      unfold colsOf
      rw [List.map_map]; rfl
    rw [e]
    exact h
theorem cols_len (rows : List (List Nat)) (n : Nat) : (colsOf rows n).length = n := by simp [colsOf]
theorem t_end_kinds (c : E81 w K mg base) {rows : List (List Nat)} {n : Nat} (ok : CW rows n) (h : Q (.tun ((kindsOf (colsOf rows n)).map D.int)) M) :
    TFn P81 w K mg base 2 (ga K "end_kinds") (fdOf K ("end_kinds", none)) ["cloth"] [clothD K rows] M Q := by
  refine TFn.of c.f_end_kinds s_end_kinds rfl fun cdv A outer s H F hr => ?_
  refine .one (.ret (.call hr c.g_kinds_in_order c.f_kinds_in_order.kp c.b_kinds_in_order (.cons (.call hr c.g_signs_of_ends c.f_signs_of_ends.kp c.b_signs_of_ends (.cons (.var 0 rfl (.nil (t_signs_of_ends c ok (.nil ?_)))))))))
  exact t_kinds_txt c (.inl rfl) (by rw [cols_len]; exact ok.n1) h
theorem t_pick_kinds (c : E81 w K mg base) {rows : List (List Nat)} {n : Nat} (ok : CW rows n) (h : Q (.tun ((kindsOf rows).map D.int)) M) :
    TFn P81 w K mg base 2 (ga K "pick_kinds") (fdOf K ("pick_kinds", none)) ["cloth"] [clothD K rows] M Q := by
  refine TFn.of c.f_pick_kinds s_pick_kinds rfl fun cdv A outer s H F hr => ?_
  refine .one (.ret (.call hr c.g_kinds_in_order c.f_kinds_in_order.kp c.b_kinds_in_order (.cons (.fld (.var 0 rfl ⟨_, _, _, rfl, c.cls_Cloth, c.no_Cloth_picks, by rfl, .nil ?_⟩)))))
  exact t_kinds_txt c (.inr rfl) ok.r1 h
theorem t_fewest_shafts (c : E81 w K mg base) {rows : List (List Nat)} {n : Nat} (ok : CW rows n) (h : Q (.int (uniq [] (kindsOf (colsOf rows n))).length) M) :
    TFn P81 w K mg base 3 (ga K "fewest_shafts") (fdOf K ("fewest_shafts", none)) ["cloth"] [clothD K rows] M Q := by
  refine TFn.of c.f_fewest_shafts s_fewest_shafts rfl fun cdv A outer s H F hr => ?_
  have n1 := ok.n1
  refine .one (.ret (.lenSet rfl c.n_len c.n_set (.soft (.call hr c.g_end_kinds c.f_end_kinds.kp c.b_end_kinds (.cons (.var 0 rfl (.nil (t_end_kinds c ok ⟨_, rfl, _, .tupI _, ?_, ?_⟩))))))))
  · rw [List.length_map, kinds_len, cols_len]; show _ < 4096; omega
  · rw [once_ints]; exact h
theorem t_fewest_treadles (c : E81 w K mg base) {rows : List (List Nat)} {n : Nat} (ok : CW rows n) (h : Q (.int (uniq [] (kindsOf rows)).length) M) :
    TFn P81 w K mg base 3 (ga K "fewest_treadles") (fdOf K ("fewest_treadles", none)) ["cloth"] [clothD K rows] M Q := by
  refine TFn.of c.f_fewest_treadles s_fewest_treadles rfl fun cdv A outer s H F hr => ?_
  have n1 := ok.r1
  refine .one (.ret (.lenSet rfl c.n_len c.n_set (.soft (.call hr c.g_pick_kinds c.f_pick_kinds.kp c.b_pick_kinds (.cons (.var 0 rfl (.nil (t_pick_kinds c ok ⟨_, rfl, _, .tupI _, ?_, ?_⟩))))))))
  · rw [List.length_map, kinds_len]; show _ < 4096; omega
  · rw [once_ints]; exact h
end
end K81
end
section
/-! TKm: kinds, in plain Lean. -/
namespace TL
section
variable {α β : Type} [DecidableEq α] [DecidableEq β]
theorem ixOf_cons (y x : α) (u : List α) : ixOf (y :: u) x = if y = x then 0 else ixOf u x + 1 := by
  unfold ixOf
  rw [List.idxOf_cons]
  have : (y == x) = decide (y = x) := rfl
  rw [this]
  by_cases h : y = x <;> simp [h]
theorem ixOf_lt {x : α} : ∀ {u : List α}, x ∈ u → ixOf u x < u.length
  | y :: u, h => by
    rw [ixOf_cons]
    split
    · simp
    · rename_i hn
      have := ixOf_lt (u := u) (x := x) ((List.mem_cons.mp h).resolve_left fun z => hn z.symm)
      simp; omega
theorem ixOf_get {x : α} : ∀ {u : List α}, x ∈ u → u[ixOf u x]? = some x
  | y :: u, h => by
    rw [ixOf_cons]
    split
    · rename_i e; simp [e]
    · rename_i hn
      have := ixOf_get (u := u) (x := x) ((List.mem_cons.mp h).resolve_left fun z => hn z.symm)
      simpa using this
theorem ixOf_first {x : α} : ∀ {u : List α} {j : Nat}, j < ixOf u x → u[j]? ≠ some x
  | [], j, h => by simp
  | y :: u, j, h => by
    rw [ixOf_cons] at h
    split at h
    · omega
    · rename_i hn
      cases j with
      | zero => simp [hn]
      | succ j => simpa using ixOf_first (u := u) (x := x) (j := j) (by omega)
theorem ixOf_at : ∀ {u : List α} {k : Nat} {x : α}, u.Nodup → u[k]? = some x → ixOf u x = k
  | [], k, x, _, h => by simp at h
  | y :: u, 0, x, _, h => by simp at h; rw [ixOf_cons, if_pos h]
  | y :: u, k + 1, x, hn, h => by
    have h' : u[k]? = some x := by simpa using h
    have hx : x ∈ u := List.mem_of_getElem? h'
    obtain ⟨h1, h2⟩ := List.nodup_cons.mp hn
    have hne : ¬ y = x := fun e => h1 (by rw [e]; exact hx)
    rw [ixOf_cons, if_neg hne, ixOf_at h2 h']
theorem ixOf_inj {u : List α} {x y : α} (hx : x ∈ u) (hy : y ∈ u) (h : ixOf u x = ixOf u y) : x = y := by
  have h1 := ixOf_get hx
  rw [h, ixOf_get hy] at h1
  exact (Option.some.inj h1).symm
theorem uniq_map_on {f : α → β} : ∀ {l acc : List α}, (∀ a b, a ∈ acc ∨ a ∈ l → b ∈ acc ∨ b ∈ l → f a = f b → a = b) → uniq (acc.map f) (l.map f) = (uniq acc l).map f
  | [], acc, _ => rfl
  | k :: l, acc, hf => by
    have e : (if f k ∈ acc.map f then acc.map f else acc.map f ++ [f k]) = (if k ∈ acc then acc else acc ++ [k]).map f := by
      by_cases h : k ∈ acc
      · rw [if_pos h, if_pos (List.mem_map_of_mem h)]
      · rw [if_neg h, if_neg (fun z => h (by
          obtain ⟨b, hb, e⟩ := List.mem_map.mp z
          rw [← hf b k (.inl hb) (.inr (List.mem_cons_self ..)) e]; exact hb)), List.map_append]; rfl
    show uniq _ (l.map f) = _
    rw [e]
    refine uniq_map_on (l := l) (acc := if k ∈ acc then acc else acc ++ [k]) fun a b ha hb => hf a b ?_ ?_
    · split at ha
      · rcases ha with h | h
        · exact .inl h
        · exact .inr (List.mem_cons_of_mem _ h)
      · simp only [List.mem_append, List.mem_singleton] at ha
        simp only [List.mem_cons]
        rcases ha with (h | h) | h
        · exact .inl h
        · exact .inr (.inl h)
        · exact .inr (.inr h)
    · split at hb
      · rcases hb with h | h
        · exact .inl h
        · exact .inr (List.mem_cons_of_mem _ h)
      · simp only [List.mem_append, List.mem_singleton] at hb
        simp only [List.mem_cons]
        rcases hb with (h | h) | h
        · exact .inl h
        · exact .inr (.inl h)
        · exact .inr (.inr h)
theorem mem_u {l : List α} {x : α} : x ∈ uniq [] l ↔ x ∈ l := by rw [mem_uniq]; simp
theorem nodup_u (l : List α) : (uniq [] l).Nodup := nodup_uniq List.nodup_nil
theorem map_ix {u : List α} (h : u.Nodup) : (u.map fun x => ((ixOf u x : Nat) : Int)) = (List.range u.length).map fun (k : Nat) => (k : Int) := by
  refine List.ext_getElem (by simp) fun i h1 h2 => ?_
  have hi : i < u.length := by simpa using h1
  simp only [List.getElem_map, List.getElem_range]
  rw [ixOf_at h (List.getElem?_eq_getElem hi)]
theorem kinds_uniq (l : List α) : uniq [] (kindsOf l) = (List.range (uniq [] l).length).map fun (k : Nat) => (k : Int) := by
  unfold kindsOf
  rw [show ([] : List Int) = ([] : List α).map (fun x => ((ixOf (uniq [] l) x : Nat) : Int)) from rfl, uniq_map_on]
  · exact map_ix (nodup_u l)
  · intro a b ha hb h
    have ha' : a ∈ uniq [] l := mem_u.mpr (ha.resolve_left (by simp))
    have hb' : b ∈ uniq [] l := mem_u.mpr (hb.resolve_left (by simp))
    exact ixOf_inj ha' hb' (by exact_mod_cast h)
theorem kinds_ulen (l : List α) : (uniq [] (kindsOf l)).length = (uniq [] l).length := by rw [kinds_uniq]; simp
theorem kinds_mem {l : List α} {k : Nat} (h : k < (uniq [] l).length) : (k : Int) ∈ kindsOf l := by
  have : (k : Int) ∈ uniq [] (kindsOf l) := by
    rw [kinds_uniq]
    exact List.mem_map.mpr ⟨k, List.mem_range.mpr h, rfl⟩
  exact mem_u.mp this
/-- the items at the first places of the kinds are the kinds -/
theorem firsts_items (l : List α) : ((List.range (uniq [] l).length).map fun (k : Nat) => l[ixOf (kindsOf l) (k : Int)]?) = (uniq [] l).map some := by
  refine List.ext_getElem (by simp) fun i h1 h2 => ?_
  have hi : i < (uniq [] l).length := by simpa using h1
  simp only [List.getElem_map, List.getElem_range]
  have h3 := ixOf_get (kinds_mem hi)
  unfold kindsOf at h3
  rw [List.getElem?_map] at h3
  obtain ⟨x, hx, ex⟩ := Option.map_eq_some_iff.mp h3
  have hxl : x ∈ l := List.mem_of_getElem? hx
  have e1 : ixOf (uniq [] l) x = i := by exact_mod_cast ex
  have e2 := ixOf_get (mem_u.mpr hxl)
  rw [e1, List.getElem?_eq_getElem hi] at e2
  rw [show kindsOf l = l.map (fun x => ((ixOf (uniq [] l) x : Nat) : Int)) from rfl, hx, ← e2]
end
end TL
end
section
set_option maxRecDepth 100000
set_option maxHeartbeats 0
/-! K81J: first crossings. -/
namespace K81
open PySem PySem.Spec PyProof.Rows L2 TL
open He (ga ma fAd)
/-- the sign at a crossing, or none -/
def signAt (rows : List (List Nat)) (n p e : Nat) : List Nat := if p < rows.length ∧ e < n then [(rows.getD p []).getD e 0] else []
/-- a draft -/
structure DrOk (v : LW) (t : List Nat) : Prop where
  ok : v.Ok
  t0 : t ≠ []
  t1 : t.length ≤ 1000
  tr : okTr v t = true
def rowsOf (v : LW) (t : List Nat) : List (List Nat) := t.map (rowOf v)
theorem DrOk.cw {v : LW} {t : List Nat} (d : DrOk v t) : CW (rowsOf v t) v.ends.length :=
  ⟨by simpa [rowsOf] using d.t0, by simpa [rowsOf] using d.t1, by simpa using d.ok.e0, Nat.le_trans d.ok.e1 (by omega), fun r hr => by
    obtain ⟨x, _, rfl⟩ := List.mem_map.mp hr
    refine ⟨by simp [rowOf, pickOf], fun c hc => ?_⟩
    obtain ⟨e, _, rfl⟩ := List.mem_map.mp hc
    split <;> simp⟩
/-- the first crossing at which two cloths are unlike -/
def IsFirst (a b : List (List Nat)) (n m : Nat) : Option (Nat × Nat) → Prop
  | some (p, e) => signAt a n p e ≠ signAt b m p e ∧ ∀ p' e', (p' < p ∨ (p' = p ∧ e' < e)) → signAt a n p' e' = signAt b m p' e'
  | none => ∀ p e, signAt a n p e = signAt b m p e
def optD : Option (Nat × Nat) → D
  | some (p, e) => .tup [.int p, .int e]
  | none => .non
theorem sign_far {a : List (List Nat)} {n p e : Nat} (h : a.length ≤ p ∨ n ≤ e) : signAt a n p e = [] := if_neg (by omega)
theorem range_split {N : Nat} {pre post : List Nat} {x : Nat} (e : List.range N = pre ++ x :: post) : pre = List.range x ∧ x < N := by
  have h1 : (List.range N)[pre.length]? = some x := by rw [e]; simp
  have hlt : pre.length < N := by
    have := congrArg List.length e
    simp at this; omega
  rw [List.getElem?_eq_getElem (by simpa using hlt)] at h1
  have h2 : pre.length = x := by simpa using h1
  refine ⟨?_, by omega⟩
  have h3 := congrArg (List.take pre.length) e
  rw [List.take_left, List.take_range, Nat.min_eq_left (by omega), h2] at h3
  exact h3.symm
section
variable {w : World} {K : PySem.W.Frag} {mg : Str → Option Value} {base : Heap} {M : Mp} {Q : DQ}
theorem head_len {rows : List (List Nat)} {n : Nat} (ok : CW rows n) : (rows.headD []).length = n := by
  cases e : rows with
  | nil => exact absurd e ok.r0
  | cons r rs => exact (ok.r2 r (by rw [e]; exact List.mem_cons_self ..)).1
theorem t_sign_at (c : E81 w K mg base) {rows : List (List Nat)} {n p e : Nat} (ok : CW rows n) (h : Q (.str (signAt rows n p e)) M) :
    TFn P81 w K mg base 3 (ga K "sign_at") (fdOf K ("sign_at", none)) ["cloth", "pick", "end"] [clothD K rows, .int p, .int e] M Q := by
  refine TFn.of c.f_sign_at s_sign_at rfl fun cdv A outer s H F hr => ?_
  have r1 := ok.r1
  have n1 := ok.n1
  refine .one (.ret (.ife (.ww (.and (.cmp (.var 1 rfl (.callB c.n_len rfl (.cons (.var 0 rfl (.nil (VC.lenOwn hr c.sp_Cloth_len.1 c.sp_Cloth_len.2 c.b_Cloth_len (t_Cloth_len c ⟨_, rfl, by omega, .lt ⟨_, rfl, ?_, ?_⟩⟩))))))))))))
  · intro z
    have := of_decide_eq_false z
    refine ⟨fun z => (nomatch z), fun _ => .str ?_⟩
    rw [sign_far (.inl (by omega))] at h
    exact h
  · intro z
    have hp := of_decide_eq_true z
    refine .and1 (.cmp (.var 2 rfl (.fld (.var 0 rfl ⟨_, _, _, rfl, c.cls_Cloth, c.no_Cloth_ends, by rfl, .lt ⟨_, rfl, fun z => ?_, fun z => ?_⟩⟩))))
    · have he := of_decide_eq_true z
      rw [head_len ok] at he
      have hpl : p < rows.length := by omega
      have hr2 := ok.r2 rows[p] (List.getElem_mem hpl)
      refine .ix (.ix (.fld (.var 0 rfl ⟨_, _, _, rfl, c.cls_Cloth, c.no_Cloth_picks, by rfl, .var 1 rfl (.tup (d := .str rows[p]) ?_ (.var 2 rfl (VI.str (c := rows[p].getD e 0) (by rw [sizeLine_eq]; omega) ?_ ?_)))⟩)))
      · rw [TL.atI_nat, List.getElem?_map, List.getElem?_eq_getElem hpl]; rfl
      · rw [TL.atI_nat, List.getD_eq_getElem?_getD, List.getElem?_eq_getElem (by omega)]; rfl
      · have : signAt rows n p e = [rows[p].getD e 0] := by
          unfold signAt
          rw [if_pos ⟨hpl, by omega⟩, List.getD_eq_getElem?_getD (l := rows), List.getElem?_eq_getElem hpl]; rfl
        rw [this] at h
        exact h
    · have he := of_decide_eq_false z
      rw [head_len ok] at he
      refine .str ?_
      rw [sign_far (.inr (by omega))] at h
      exact h
theorem t_first_crossing (c : E81 w K mg base) {v u : LW} {t s : List Nat} (dv : DrOk v t) (du : DrOk u s) (h : ∀ r, IsFirst (rowsOf v t) (rowsOf u s) v.ends.length u.ends.length r → Q (optD r) M) :
    TFn P81 w K mg base 7 (ga K "first_crossing") (fdOf K ("first_crossing", none)) ["one", "other"] [.tup [loomD K v, .str t], .tup [loomD K u, .str s]] M Q := by
  refine TFn.of c.f_first_crossing s_first_crossing rfl fun cdv A outer s' H F hr => ?_
  have ca := dv.cw
  have cb := du.cw
  have a1 := ca.r1
  have b1 := cb.r1
  have n1 := ca.n1
  have m1 := cb.n1
  refine .cons (.asg (WE.lc2 4 5 [("loom", 4), ("treadling", 5)] rfl s_first_crossing.nd (show BlkOk n_first_crossing (defScope (top 38)) _ _ from ⟨rfl, by decide +kernel, by decide +kernel, by decide +kernel, by decide +kernel⟩) ?_))
  refine WI.tup (.tuple (.cons (.var 0 rfl (.cons (.var 1 rfl (.nil ⟨by show 2 ≤ sizeLine; decide, _, rfl, ?_⟩))))))
  refine CompT.step (fun p : LW × List Nat => D.tup [loomD K p.1, .str p.2]) (fun pre acc M' => acc = pre.map (fun p => clothD K (rowsOf p.1 p.2)) ∧ M' = M) (items := [(v, t), (u, s)]) ?_ (by show 2 ≤ sizeLine; decide) ?_ ⟨rfl, rfl⟩
  · rintro pre p post acc M' e ⟨rfl, rfl⟩
    have hp : p ∈ [(v, t), (u, s)] := by rw [e]; simp
    have dp : DrOk p.1 p.2 := by
      rcases (by simpa using hp : p = (v, t) ∨ p = (u, s)) with rfl | rfl
      · exact dv
      · exact du
    exact ⟨_, rfl, fun s H C cl fp => .call hr c.g_woven c.f_woven.kp c.b_woven (.cons (.var 4 rfl (.cons (.var 5 rfl (.nil (t_woven c dp.ok dp.t0 dp.t1 dp.tr ⟨by simp [rowsOf], rfl⟩))))))⟩
  rintro acc M' ⟨rfl, rfl⟩
  show WG _ _ (.lst [clothD K (rowsOf v t), clothD K (rowsOf u s)]) _ _ _
  refine .unl rfl (.cons (.name 2 (.cons (.name 3 (.nil ?_) s_first_crossing.nd)) s_first_crossing.nd))
  refine .cons (.for (L2.passes_of rfl) rfl ?_)
  refine WI.range1 c.n_range (.callB c.n_max rfl (.cons (.callB c.n_len rfl (.cons (.var 2 rfl (.nil (VC.lenOwn (hr.mono (j := 2) (by omega)) c.sp_Cloth_len.1 c.sp_Cloth_len.2 c.b_Cloth_len (t_Cloth_len c ⟨_, rfl, by omega, ?_⟩))))))))
  refine .cons (.callB c.n_len rfl (.cons (.var 3 rfl (.nil (VC.lenOwn (hr.mono (j := 2) (by omega)) c.sp_Cloth_len.1 c.sp_Cloth_len.2 c.b_Cloth_len (t_Cloth_len c ⟨_, rfl, by omega, .nil ?_⟩))))))
  refine VC.max2 rfl ⟨_, rfl, by omega, by omega, ?_⟩
  have eP : (max ((rowsOf v t).length : Int) ((rowsOf u s).length : Int)).toNat = max (rowsOf v t).length (rowsOf u s).length := by omega
  rw [eP]
  unfold rng
  refine ForT.map (fun (i : Nat) => D.int (0 + (i : Int))) (fun pre ρ M2 => M2 = M' ∧ (∃ x6 x7, ρ = [some (.tup [loomD K v, .str t]), some (.tup [loomD K u, .str s]), some (clothD K (rowsOf v t)), some (clothD K (rowsOf u s)), none, none, x6, x7]) ∧ ∀ p' ∈ pre, ∀ e', signAt (rowsOf v t) v.ends.length p' e' = signAt (rowsOf u s) u.ends.length p' e') ?_ ?_ ⟨rfl, ⟨none, none, rfl⟩, by simp⟩
  · rintro pre p post ρ M2 e ⟨rfl, ⟨x6, x7, rfl⟩, hpre⟩
    obtain ⟨rfl, hp⟩ := range_split e
    refine .name 6 ?_ s_first_crossing.nd
    rw [Int.zero_add]
    refine .one (.for (L2.passes_of rfl) rfl ?_)
    refine WI.range1 c.n_range (.callB c.n_max rfl (.cons (.fld (.var 2 rfl ⟨_, _, _, rfl, c.cls_Cloth, c.no_Cloth_ends, by rfl, .cons (.fld (.var 3 rfl ⟨_, _, _, rfl, c.cls_Cloth, c.no_Cloth_ends, by rfl, .nil ?_⟩))⟩))))
    rw [head_len ca, head_len cb]
    refine VC.max2 rfl ⟨_, rfl, by omega, by omega, ?_⟩
    have eE : (max (v.ends.length : Int) (u.ends.length : Int)).toNat = max v.ends.length u.ends.length := by omega
    rw [eE]
    unfold rng
    refine ForT.map (fun (i : Nat) => D.int (0 + (i : Int))) (fun pre ρ M3 => M3 = M2 ∧ (∃ x7, ρ = [some (.tup [loomD K v, .str t]), some (.tup [loomD K u, .str s]), some (clothD K (rowsOf v t)), some (clothD K (rowsOf u s)), none, none, some (.int p), x7]) ∧ ∀ e' ∈ pre, signAt (rowsOf v t) v.ends.length p e' = signAt (rowsOf u s) u.ends.length p e') ?_ ?_ ⟨rfl, ⟨_, rfl⟩, by simp⟩
    · rintro pre e post ρ M3 e2 ⟨rfl, ⟨x7, rfl⟩, hpre2⟩
      obtain ⟨rfl, he⟩ := range_split e2
      refine .name 7 ?_ s_first_crossing.nd
      rw [Int.zero_add]
      refine .one (.ite (.cmp (.call (hr.mono (j := 3) (by omega)) c.g_sign_at c.f_sign_at.kp c.b_sign_at (.cons (.var 2 rfl (.cons (.var 6 rfl (.cons (.var 7 rfl (.nil (t_sign_at c ca ?_)))))))))))
      refine .call (hr.mono (j := 3) (by omega)) c.g_sign_at c.f_sign_at.kp c.b_sign_at (.cons (.var 3 rfl (.cons (.var 6 rfl (.cons (.var 7 rfl (.nil (t_sign_at c cb ?_))))))))
      refine VO.neS ⟨_, rfl, fun z => ?_, fun z => ?_⟩
      · have hne : signAt (rowsOf v t) v.ends.length p e ≠ signAt (rowsOf u s) u.ends.length p e := by simpa using z
        refine .one (.ret (.tuple (.cons (.var 6 rfl (.cons (.var 7 rfl (.nil ⟨by show 2 ≤ sizeLine; decide, ?_⟩)))))))
        refine h (some (p, e)) ⟨hne, fun p' e' hlt => ?_⟩
        rcases hlt with hlt | ⟨rfl, hlt⟩
        · exact hpre p' (List.mem_range.mpr hlt) e'
        · exact hpre2 e' (List.mem_range.mpr hlt)
      · have heq : signAt (rowsOf v t) v.ends.length p e = signAt (rowsOf u s) u.ends.length p e := by simpa using z
        refine .done ⟨rfl, ⟨_, rfl⟩, fun e' he' => ?_⟩
        rcases (by simpa using he' : e' < e ∨ e' = e) with h1 | rfl
        · exact hpre2 e' (List.mem_range.mpr h1)
        · exact heq
    · rintro ρ M3 ⟨rfl, ⟨x7, rfl⟩, hpre2⟩
      refine ⟨_, Le.refl _, rfl, ⟨_, _, rfl⟩, fun p' hp' e' => ?_⟩
      rcases (by simpa using hp' : p' < p ∨ p' = p) with h1 | rfl
      · exact hpre p' (List.mem_range.mpr h1) e'
      · by_cases he : e' < max v.ends.length u.ends.length
        · exact hpre2 e' (List.mem_range.mpr he)
        · rw [sign_far (.inr (by omega)), sign_far (.inr (by omega))]
  · rintro ρ M2 ⟨rfl, ⟨x6, x7, rfl⟩, hpre⟩
    refine ⟨_, Le.refl _, .one (.ret (.non ?_))⟩
    refine h none fun p e => ?_
    by_cases hp : p < max (rowsOf v t).length (rowsOf u s).length
    · exact hpre p (List.mem_range.mpr hp) e
    · rw [sign_far (.inl (by omega)), sign_far (.inl (by omega))]
end
end K81
end
section
set_option maxRecDepth 100000
set_option maxHeartbeats 0
/-! K81K: reduced looms. -/
namespace K81
open PySem PySem.Spec PyProof.Rows L2 TL
open He (ga ma fAd)
/-- which lifts raise a shaft -/
def col (v : LW) (e : Int) : List Bool := v.lifts.map fun l => decide (e ∈ l)
/-- the number of a shaft's kind -/
def knN (v : LW) (e : Int) : Nat := ixOf (uniq [] (v.ends.map (col v))) (col v e)
abbrev kn (v : LW) (e : Int) : Int := (knN v e : Nat)
def kdP (v : LW) : List (Key × D) := v.ends.map fun e => (.inl e, .int (kn v e))
def kdD (v : LW) : D := .dic (mergeG [] (kdP v))
def redLift (v : LW) (l : List Int) : List Int := sortI (uniq [] ((l.filter fun e => decide (e ∈ v.ends)).map (kn v)))
def redLifts (v : LW) : List (List Int) := v.lifts.map (redLift v)
/-- the reduced loom, the led letters -/
def redW (v : LW) : LW := ⟨((uniq [] (v.ends.map (kn v))).length : Nat), v.ends.map (kn v), uniq [] (redLifts v)⟩
def redL (v : LW) : List Nat := (kindsOf (redLifts v)).map fun k => 97 + k.toNat
theorem kinds_col (v : LW) : kindsOf (v.ends.map (col v)) = v.ends.map (kn v) := by
  unfold kindsOf
  rw [List.map_map]; rfl
def tB (bs : List Bool) : D := .tup (bs.map D.bl)
theorem depth_nums (ks : List NestedKey) (h : ∀ k ∈ ks, k.depth = 0) : NestedKey.depthAll ks = 0 := by
  induction ks with
  | nil => simp [NestedKey.depthAll]
  | cons k ks ih => simp [NestedKey.depthAll, h k (List.mem_cons_self ..), ih fun x hx => h x (List.mem_cons_of_mem _ hx)]
theorem keyB : KeyN tB (fun bs => .tup (bs.map fun b => .num (if b = true then 1 else 0))) where
  tu := fun bs => ⟨_, rfl⟩
  k := fun bs => by
    show (nkeys (bs.map D.bl)).map NestedKey.tup = _
    rw [nkeys_map (g := fun b => .num (if b = true then 1 else 0)) fun b => rfl]; rfl
  inj := fun a b h => by
    replace h := NestedKey.tup.inj h
    induction a generalizing b with
    | nil => cases b with
      | nil => rfl
      | cons _ _ => cases h
    | cons x a ih => cases b with
      | nil => cases h
      | cons y b =>
        simp only [List.map_cons, List.cons.injEq] at h
        rw [ih b h.2]
        have := NestedKey.num.inj h.1
        cases x <;> cases y <;> simp_all
  dep := fun bs => by
    have := depth_nums (bs.map fun b => .num (if b = true then 1 else 0)) fun k hk => by
      obtain ⟨b, _, rfl⟩ := List.mem_map.mp hk
      simp [NestedKey.depth]
    simp [NestedKey.depth, this]
theorem keyI : KeyN tupI (fun l => .tup (l.map .num)) where
  tu := fun l => ⟨_, rfl⟩
  k := fun l => by
    show (nkeys (l.map D.int)).map NestedKey.tup = _
    rw [nkeys_map (g := .num) fun b => rfl]; rfl
  inj := fun a b h => by
    replace h := NestedKey.tup.inj h
    induction a generalizing b with
    | nil => cases b with
      | nil => rfl
      | cons _ _ => cases h
    | cons x a ih => cases b with
      | nil => cases h
      | cons y b =>
        simp only [List.map_cons, List.cons.injEq] at h
        rw [ih b h.2, NestedKey.num.inj h.1]
  dep := fun l => by
    have := depth_nums (l.map .num) fun k hk => by
      obtain ⟨b, _, rfl⟩ := List.mem_map.mp hk
      simp [NestedKey.depth]
    simp [NestedKey.depth, this]
theorem lookK_mergeN {α : Type} {k : Key} : ∀ {kds acc : List (Key × α)}, k ∉ kds.map (·.1) → lookK acc k = none → lookK (mergeG acc kds) k = none
  | [], acc, _, h => h
  | p :: kds, acc, hp, h => by
    show lookK (mergeG (putG acc p.1 p.2) kds) k = _
    simp only [List.map_cons, List.mem_cons, not_or] at hp
    refine lookK_mergeN hp.2 ?_
    rw [lookK_put, if_neg (fun e => hp.1 e.symm)]; exact h
theorem look_kd {v : LW} (e : Int) : lookK (mergeG [] (kdP v)) (.inl e) = if e ∈ v.ends then some (.int (kn v e)) else none := by
  split
  · rename_i h
    refine lookK_merge (g := fun k => match k with | .inl i => D.int (kn v i) | _ => D.non) (fun p hp => ?_) (.inl ?_)
    · obtain ⟨i, _, rfl⟩ := List.mem_map.mp hp
      rfl
    · unfold kdP
      rw [List.map_map]
      exact List.mem_map.mpr ⟨e, h, rfl⟩
  · rename_i h
    refine lookK_mergeN (fun hp => h ?_) rfl
    unfold kdP at hp
    rw [List.map_map] at hp
    obtain ⟨i, hi, ei⟩ := List.mem_map.mp hp
    have : i = e := Sum.inl.inj ei
    exact this ▸ hi
/-- rising lists -/
theorem rise_of : ∀ {l : List Int}, l.Pairwise (· < ·) → riseB l = true
  | [], _ => rfl
  | [x], _ => rfl
  | x :: y :: l, h => by
    have h1 := rise_of (l := y :: l) (List.pairwise_cons.mp h).2
    have h2 := (List.pairwise_cons.mp h).1 y (List.mem_cons_self ..)
    unfold riseB at h1 ⊢
    simp only [List.drop_succ_cons, List.drop_zero, List.zipWith_cons_cons, List.all_cons, Bool.and_eq_true, decide_eq_true_eq] at h1 ⊢
    exact ⟨h2, h1⟩
theorem sort_lt {l : List Int} (h : l.Nodup) : (sortI l).Pairwise (· < ·) := by
  have h1 := sortI_le l
  have h2 : (sortI l).Nodup := (sortI_perm l).nodup_iff.mpr h
  exact (h1.and h2).imp fun ⟨a, b⟩ => by omega
theorem mem_sort {l : List Int} {x : Int} : x ∈ sortI l ↔ x ∈ l := (sortI_perm l).mem_iff
theorem kn_lt {v : LW} {e : Int} (h : e ∈ v.ends) : knN v e < (uniq [] (v.ends.map (kn v))).length := by
  have h1 : knN v e < (uniq [] (v.ends.map (col v))).length := ixOf_lt (mem_u.mpr (List.mem_map_of_mem h))
  rwa [← kinds_ulen, kinds_col] at h1
theorem redLift_mem {v : LW} {l : List Int} {x : Int} : x ∈ redLift v l ↔ ∃ e ∈ l, e ∈ v.ends ∧ x = kn v e := by
  unfold redLift
  rw [mem_sort, mem_u]
  simp only [List.mem_map, List.mem_filter, decide_eq_true_eq]
  constructor
  · rintro ⟨e, ⟨h1, h2⟩, rfl⟩; exact ⟨e, h1, h2, rfl⟩
  · rintro ⟨e, h1, h2, rfl⟩; exact ⟨e, ⟨h1, h2⟩, rfl⟩
theorem red_ok {v : LW} (ok : v.Ok) (h99 : v.ends.length ≤ 99) : (redW v).Ok := by
  have hu := uniq_len (v.ends.map (kn v)) []
  simp at hu
  have hne : v.ends ≠ [] := ok.e0
  have hpos : 0 < (uniq [] (v.ends.map (kn v))).length := by
    cases e : v.ends with
    | nil => exact absurd e hne
    | cons x xs =>
      have : knN v x < _ := kn_lt (v := v) (e := x) (by rw [e]; exact List.mem_cons_self ..)
      rw [← e]; omega
  have hul := uniq_len (redLifts v) []
  have hll : (redLifts v).length = v.lifts.length := by simp [redLifts]
  refine ⟨by show (1 : Int) ≤ ((uniq [] (v.ends.map (kn v))).length : Nat); omega, by show (((uniq [] (v.ends.map (kn v))).length : Nat) : Int) ≤ 99; omega, by simpa [redW] using hne, by simp [redW]; omega, ?_, ?_, ?_, ?_⟩
  · intro i hi
    obtain ⟨e, he, rfl⟩ := List.mem_map.mp hi
    have := kn_lt he
    exact ⟨by show (0 : Int) ≤ (knN v e : Int); omega, by show (knN v e : Int) < ((uniq [] (v.ends.map (kn v))).length : Nat); omega⟩
  · show uniq [] (redLifts v) ≠ []
    intro e
    cases el : v.lifts with
    | nil => exact absurd el ok.l0
    | cons x xs =>
      have : redLift v x ∈ uniq [] (redLifts v) := mem_u.mpr (List.mem_map.mpr ⟨x, by rw [el]; exact List.mem_cons_self .., rfl⟩)
      rw [e] at this; cases this
  · show (uniq [] (redLifts v)).length ≤ 26
    have := ok.l1
    simp at hul; omega
  · intro l hl
    have hl2 : l ∈ redLifts v := mem_u.mp hl
    obtain ⟨m, hm, rfl⟩ := List.mem_map.mp hl2
    refine ⟨?_, fun i hi => ?_, rise_of (sort_lt (nodup_u _))⟩
    · have h1 := (sortI_perm (uniq [] ((m.filter fun e => decide (e ∈ v.ends)).map (kn v)))).length_eq
      have h2 := uniq_len ((m.filter fun e => decide (e ∈ v.ends)).map (kn v)) []
      have h3 : (m.filter fun e => decide (e ∈ v.ends)).length ≤ m.length := List.length_filter_le ..
      have h4 := (ok.l2 m hm).1
      show (sortI _).length ≤ 100
      simp at h2
      omega
    · obtain ⟨e, _, he, rfl⟩ := redLift_mem.mp hi
      have := kn_lt he
      exact ⟨by show (0 : Int) ≤ (knN v e : Int); omega, by show (knN v e : Int) < ((uniq [] (v.ends.map (kn v))).length : Nat); omega⟩
section
variable {w : World} {K : PySem.W.Frag} {mg : Str → Option Value} {base : Heap} {M : Mp} {Q : DQ}
theorem t_shaft_kinds (c : E81 w K mg base) {v : LW} (ok : v.Ok) (h : Q (kdD v) M) :
    TFn P81 w K mg base 2 (ga K "shaft_kinds") (fdOf K ("shaft_kinds", none)) ["loom"] [loomD K v] M Q := by
  refine TFn.of c.f_shaft_kinds s_shaft_kinds rfl fun cdv A outer s H F hr => ?_
  have e1 := ok.e1
  have l1 := ok.l1
  refine .cons (WS.setLc1 1 3 [("shaft", 3)] rfl s_shaft_kinds.nd (show BlkOk n_shaft_kinds (defScope (top 39)) _ _ from ⟨rfl, by decide +kernel, by decide +kernel, by decide +kernel, by decide +kernel⟩) ?_)
  refine WI.tup (.fld (.var 0 rfl ⟨_, v.insF, _, rfl, c.cls_Loom, c.no_Loom_threading, by rfl, _, rfl, ?_⟩))
  refine CompT.step D.int (fun pre acc M2 => acc = pre.map (fun e => tB (col v e)) ∧ M2 = M) ?_ (by rw [sizeLine_eq]; omega) ?_ ⟨rfl, rfl⟩
  · rintro pre e post acc M' _ ⟨rfl, rfl⟩
    refine ⟨_, rfl, fun s H C cl fp => .callTy c.n_tuple rfl (.cons ?_)⟩
    refine WE.lc1 2 [("lift", 2)] rfl s_shaft_kinds.nd (blkOk_by (by rfl)) ?_
    refine WI.tup (.fld (.var 0 rfl ⟨_, v.insF, _, rfl, c.cls_Loom, c.no_Loom_lifts, by rfl, _, rfl, ?_⟩))
    refine CompT.step tupI (fun pre acc M2 => acc = pre.map (fun l => D.bl (decide (e ∈ l))) ∧ M2 = M') ?_ (by rw [sizeLine_eq]; omega) ?_ ⟨rfl, rfl⟩
    · rintro pre l post acc M2 _ ⟨rfl, rfl⟩
      refine ⟨_, rfl, fun s H C cl fp => .cmp (.var 3 rfl (.var 2 rfl (.inT rfl (flat_ints _) ?_)))⟩
      rw [any_ints]
      exact ⟨by simp, rfl⟩
    · rintro acc M2 ⟨rfl, rfl⟩
      refine .nil (VC.tupleL ⟨?_, rfl⟩)
      rw [List.map_append]
      simp [tB, col]
  · rintro acc M' ⟨rfl, rfl⟩
    refine .one (.ret (.callTy c.n_dict rfl (.cons (.listZip rfl c.n_list c.n_zip (.cons (.fld (.var 0 rfl ⟨_, v.insF, _, rfl, c.cls_Loom, c.no_Loom_threading, by rfl, ?_⟩)))))))
    refine .cons (.soft (.call hr c.g_kinds_in_order c.f_kinds_in_order.kp c.b_kinds_in_order (.cons (.var 1 rfl (.nil (t_kinds_tup c keyB (ts := v.ends.map (col v)) (.inl (by rw [List.map_map]; rfl)) (by rw [List.length_map]; omega) ?_))))))
    refine ⟨_, rfl, .nil ⟨_, _, rfl, by simp [kinds_len], .nil ?_⟩⟩
    have e : zpT (v.ends.map D.int) ((kindsOf (v.ends.map (col v))).map D.int) = (kdP v).map fun kv => .tup [keyV kv.1, kv.2] := by
      rw [kinds_col]
      unfold zpT kdP
      rw [List.map_map, List.map_map, List.zipWith_map, List.zipWith_self]
      rfl
    rw [e]
    exact VC.dictP rfl h
theorem fewer_eq (v : LW) (d : List Int → D) : ((List.range (uniq [] (redLifts v)).length).map fun (k : Nat) => ((redLifts v)[ixOf (kindsOf (redLifts v)) (k : Int)]?).map d) = (uniq [] (redLifts v)).map fun l => some (d l) := by
  have := congrArg (List.map (Option.map d)) (firsts_items (redLifts v))
  rw [List.map_map, List.map_map] at this
  exact this
theorem t_reduced (c : E81 w K mg base) {v : LW} (ok : v.Ok) (h99 : v.ends.length ≤ 99) (h : Q (.tup [loomD K (redW v), .str (redL v)]) M) :
    TFn P81 w K mg base 6 (ga K "reduced") (fdOf K ("reduced", none)) ["loom"] [loomD K v] M Q := by
  refine TFn.of c.f_reduced s_reduced rfl fun cdv A outer s H F hr => ?_
  have e1 := ok.e1
  have l1 := ok.l1
  have hu := hr.room.units
  have hu1 : (A.deeper (envOfC "reduced" (defScope (top 40)) s.heap.objs.size (ga K "reduced") cdv)).units + 1 < cLine := by omega
  obtain ⟨tl, vl⟩ := c.v_LETTERS
  have hll : (redLifts v).length = v.lifts.length := by simp [redLifts]
  have ul := uniq_len (redLifts v) []
  refine .cons (.set 1 (.call (hr.mono (j := 2) (by omega)) c.g_shaft_kinds c.f_shaft_kinds.kp c.b_shaft_kinds (.cons (.var 0 rfl (.nil (t_shaft_kinds c ok ?_))))) s_reduced.nd)
  -- lifts
  refine .cons (.set 2 (WE.lc1 4 [("lift", 4)] rfl s_reduced.nd (show BlkOk n_reduced (defScope (top 40)) _ _ from ⟨rfl, by decide +kernel, by decide +kernel, by decide +kernel, by decide +kernel⟩) ?_) s_reduced.nd)
  refine WI.tup (.fld (.var 0 rfl ⟨_, v.insF, _, rfl, c.cls_Loom, c.no_Loom_lifts, by rfl, _, rfl, ?_⟩))
  refine CompT.step tupI (fun pre acc M2 => acc = pre.map (fun l => tupI (redLift v l)) ∧ M2 = M) ?_ (by rw [sizeLine_eq]; omega) ?_ ⟨rfl, rfl⟩
  · rintro pre l post acc M' el ⟨rfl, rfl⟩
    have hl := (ok.l2 l (by rw [el]; simp)).1
    refine ⟨_, rfl, fun s H C cl fp => .callTy c.n_tuple rfl (.cons (.sortedSetI rfl c.n_sorted c.n_set ?_))⟩
    refine WE.lc1 3 [("shaft", 3)] rfl s_reduced.nd (blkOk_by (by rfl)) ?_
    refine WI.tup (.var 4 rfl ⟨_, rfl, ?_⟩)
    refine CompT.stepIf D.int (fun pre acc M2 => acc = (pre.filter fun e => decide (e ∈ v.ends)).map (fun e => D.int (kn v e)) ∧ M2 = M') ?_ (by rw [sizeLine_eq]; omega) ?_ ⟨rfl, rfl⟩
    · rintro pre e post acc M2 _ ⟨rfl, rfl⟩
      refine ⟨_, rfl, fun b M3 => b = decide (e ∈ v.ends) ∧ M3 = M2, fun s H C cl fp => .cmp (.var 3 rfl (.var 1 rfl (VO.inK hu1 (k := .inl e) rfl ⟨_, rfl, ?_, rfl⟩))), ?_, ?_⟩
      · rw [look_kd]
        split <;> simp_all
      · rintro M3 ⟨z, rfl⟩
        have : ¬ e ∈ v.ends := of_decide_eq_false z.symm
        exact ⟨by simp [this], rfl⟩
      · rintro M3 ⟨z, rfl⟩
        have he : e ∈ v.ends := of_decide_eq_true z.symm
        refine fun s H C cl fp => .ix (.var 1 rfl (.var 3 rfl (VI.get hu1 (k := .inl e) rfl (d := .int (kn v e)) ?_ ⟨by simp [he], rfl⟩)))
        rw [look_kd, if_pos he]
    · rintro acc M2 ⟨rfl, rfl⟩
      have hfl : (l.filter fun e => decide (e ∈ v.ends)).length ≤ l.length := List.length_filter_le ..
      have e2 : (l.filter fun e => decide (e ∈ v.ends)).map (fun e => D.int (kn v e)) = ((l.filter fun e => decide (e ∈ v.ends)).map (kn v)).map D.int := by rw [List.map_map]; rfl
      rw [e2]
      refine ⟨_, .lstI _, by rw [List.length_map]; show _ < 4096; omega, .nil (VC.tupleL ⟨?_, rfl⟩)⟩
      rw [List.map_append]; rfl
  rintro acc M' ⟨rfl, rfl⟩
  have e3 : v.lifts.map (fun l => tupI (redLift v l)) = (redLifts v).map tupI := by unfold redLifts; rw [List.map_map]; rfl
  rw [e3]
  refine .cons (.set 5 (.call (hr.mono (j := 1) (by omega)) c.g_kinds_in_order c.f_kinds_in_order.kp c.b_kinds_in_order (.cons (.var 2 rfl (.nil (t_kinds_tup c keyI (ts := redLifts v) (.inl rfl) (by omega) ?_))))) s_reduced.nd)
  -- threading
  refine .cons (.set 6 (.callTy c.n_tuple rfl (.cons ?_)) s_reduced.nd)
  refine WE.lc1 3 [("shaft", 3)] rfl s_reduced.nd (show BlkOk n_reduced (defScope (top 40)) _ _ from ⟨rfl, by decide +kernel, by decide +kernel, by decide +kernel, by decide +kernel⟩) ?_
  refine WI.tup (.fld (.var 0 rfl ⟨_, v.insF, _, rfl, c.cls_Loom, c.no_Loom_threading, by rfl, _, rfl, ?_⟩))
  refine CompT.step D.int (fun pre acc M2 => acc = pre.map (fun e => D.int (kn v e)) ∧ M2 = M') ?_ (by rw [sizeLine_eq]; omega) ?_ ⟨rfl, rfl⟩
  · rintro pre e post acc M2 el ⟨rfl, rfl⟩
    have he : e ∈ v.ends := by rw [el]; simp
    refine ⟨_, rfl, fun s H C cl fp => .ix (.var 1 rfl (.var 3 rfl (VI.get hu1 (k := .inl e) rfl (d := .int (kn v e)) ?_ ⟨by simp, rfl⟩)))⟩
    rw [look_kd, if_pos he]
  rintro acc M2 ⟨rfl, rfl⟩
  have e4 : v.ends.map (fun e => D.int (kn v e)) = (v.ends.map (kn v)).map D.int := by rw [List.map_map]; rfl
  rw [e4]
  refine .nil (VC.tupleL ?_)
  -- fewer
  refine .cons (.set 7 (.callTy c.n_tuple rfl (.cons ?_)) s_reduced.nd)
  refine WE.lc1 8 [("number", 8)] rfl s_reduced.nd (show BlkOk n_reduced (defScope (top 40)) _ _ from ⟨rfl, by decide +kernel, by decide +kernel, by decide +kernel, by decide +kernel⟩) ?_
  refine WI.list (.call (hr.mono (j := 1) (by omega)) c.g_firsts_of_kinds c.f_firsts_of_kinds.kp c.b_firsts_of_kinds (.cons (.var 5 rfl (.nil (t_firsts c (by rw [kinds_len]; omega) (fun k hk => kinds_mem (by rwa [kinds_ulen] at hk)) ⟨_, rfl, ?_⟩)))))
  have e5 : (firstsOf (kindsOf (redLifts v))).map D.int = (List.range (uniq [] (redLifts v)).length).map (fun (k : Nat) => D.int ((ixOf (kindsOf (redLifts v)) (k : Int) : Nat) : Int)) := by
    unfold firstsOf
    rw [kinds_ulen, List.map_map]; rfl
  rw [e5]
  refine CompT.step (fun (k : Nat) => D.int ((ixOf (kindsOf (redLifts v)) (k : Int) : Nat) : Int)) (fun pre acc M3 => acc.map some = pre.map (fun (k : Nat) => ((redLifts v)[ixOf (kindsOf (redLifts v)) (k : Int)]?).map tupI) ∧ M3 = M2) ?_ (by rw [sizeLine_eq, List.length_range]; simp at ul; omega) ?_ ⟨rfl, rfl⟩
  · rintro pre k post acc M3 el ⟨ea, rfl⟩
    have hk : k < (uniq [] (redLifts v)).length := List.mem_range.mp (by rw [el]; simp)
    have hx := ixOf_lt (kinds_mem hk)
    rw [kinds_len] at hx
    refine ⟨_, rfl, fun s H C cl fp => .ix (.var 2 rfl (.var 8 rfl (VI.lst (d := tupI (redLifts v)[ixOf (kindsOf (redLifts v)) (k : Int)]) ?_ ⟨?_, rfl⟩)))⟩
    · rw [TL.atI_nat, List.getElem?_map, List.getElem?_eq_getElem hx]; rfl
    · rw [List.map_append, List.map_append, ea, List.map_cons, List.map_cons, List.getElem?_eq_getElem hx]; rfl
  rintro acc M3 ⟨ea, rfl⟩
  rw [fewer_eq v tupI] at ea
  have ea2 : acc = (uniq [] (redLifts v)).map tupI := by
    have : acc.map some = ((uniq [] (redLifts v)).map tupI).map some := by rw [ea, List.map_map]; rfl
    have := congrArg (List.filterMap id) this
    simpa using this
  subst ea2
  refine .nil (VC.tupleL ?_)
  -- the loom
  refine .one (.ret (.tuple (.cons (WE.make c.mk_Loom (k := 4) (hr.mono (j := 5) (by omega)) c.g_Loom c.b_Loom_init ?_))))
  refine .cons (.lenSet rfl c.n_len c.n_set (.var 6 rfl ⟨_, .tupI _, by rw [List.length_map, List.length_map]; show _ < 4096; omega, ?_⟩))
  rw [once_ints]
  refine .cons (.var 6 rfl (.cons (.var 7 rfl (.nil fun z hz => ?_))))
  refine t_Loom_init c (v := redW v) (red_ok ok h99) hz ?_
  refine .cons (.bm PySem.F.plainAttrs_str PySem.F.slot_str_join PySem.F.type_str_join (.str ⟨.str, .cons ?_⟩))
  refine WE.lc1 9 [("kind", 9)] rfl s_reduced.nd (show BlkOk n_reduced (defScope (top 40)) _ _ from ⟨rfl, by decide +kernel, by decide +kernel, by decide +kernel, by decide +kernel⟩) ?_
  refine WI.tup (.soft (.var 5 rfl ⟨_, rfl, _, rfl, ?_⟩))
  refine CompT.step D.int (fun pre acc M5 => acc = (pre.map fun k => [97 + k.toNat]).map D.str ∧ M5 = M3) ?_ (by rw [sizeLine_eq, kinds_len]; omega) ?_ ⟨rfl, rfl⟩
  · rintro pre k post acc M4 el ⟨rfl, rfl⟩
    have hk : k ∈ kindsOf (redLifts v) := by rw [el]; simp
    obtain ⟨l, hl, rfl⟩ := List.mem_map.mp hk
    have hx : ixOf (uniq [] (redLifts v)) l < 26 := by
      have := ixOf_lt (mem_u.mpr hl)
      simp at ul; omega
    refine ⟨_, rfl, fun s H C cl fp => .ix (.globS vl (.var 9 rfl (VI.str (c := 97 + ixOf (uniq [] (redLifts v)) l) (by decide +kernel) ?_ ⟨?_, rfl⟩)))⟩
    · rw [TL.atI_nat]
      have : ∀ i, i < 26 → (lit "abcdefghijklmnopqrstuvwxyz")[i]? = some (97 + i) := by decide +kernel
      exact this _ hx
    · rw [List.map_append, List.map_append]; rfl
  rintro acc M4 ⟨rfl, rfl⟩
  refine .nil (VM.joinL ?_ (.nil ⟨by show 2 ≤ sizeLine; decide, ?_⟩))
  · rw [List.map_map]
    have : ∀ l : List Int, (l.map (List.length ∘ fun k => [97 + k.toNat])).sum = l.length := by
      intro l
      induction l with
      | nil => rfl
      | cons a l ih => rw [List.map_cons, List.sum_cons, ih]; simp; omega
    rw [this, kinds_len]; omega
  · have : ((kindsOf (redLifts v)).map fun k => [97 + k.toNat]).flatten = redL v := by
      unfold redL
      rw [← flat_signs ((kindsOf (redLifts v)).map _), List.map_map]; rfl
    rw [this]
    exact h
theorem t_is_reduced (c : E81 w K mg base) {v : LW} (ok : v.Ok) (h99 : v.ends.length ≤ 99) (h : Q (.bl (decide ((redW v).sh = v.sh ∧ (redW v).ends = v.ends ∧ (redW v).lifts = v.lifts))) M) :
    TFn P81 w K mg base 7 (ga K "is_reduced") (fdOf K ("is_reduced", none)) ["loom"] [loomD K v] M Q := by
  refine TFn.of c.f_is_reduced s_is_reduced rfl fun cdv A outer s H F hr => ?_
  refine .one (.ret (.cmp (.ix (.call hr c.g_reduced c.f_reduced.kp c.b_reduced (.cons (.var 0 rfl (.nil (t_reduced c ok h99 (.int (VI.tup rfl (.var 0 rfl ?_)))))))))))
  exact VO.eqOwn (hr.mono (j := 1) (by omega)) c.sp_Loom_eq.1 c.sp_Loom_eq.2 c.b_Loom_eq (t_Loom_eq c ⟨_, rfl, h⟩)
/-- the led letters of a treadling -/
def ledT (v : LW) (t : List Nat) : List Nat := t.map fun x => (redL v).getD (x - 97) 0
theorem redL_len (v : LW) : (redL v).length = v.lifts.length := by simp [redL, kinds_len, redLifts]
theorem t_led (c : E81 w K mg base) {v : LW} (ok : v.Ok) (h99 : v.ends.length ≤ 99) {t : List Nat} (hl : t.length ≤ 1000) (ht : okTr v t = true) {XQ : XDQ} (h : Q (.str (ledT v t)) M) :
    TFn P81 w K mg base 7 (ga K "led_treadling") (fdOf K ("led_treadling", none)) ["loom", "treadling"] [loomD K v, .str t] M Q XQ := by
  refine TFn.ofX c.f_led_treadling s_led_treadling rfl fun cdv A outer s H F hr => .of ?_
  obtain ⟨tl, vl⟩ := c.v_LETTERS
  have l1 := ok.l1
  refine .skip (.not (.val (.call (hr.mono (j := 1) (by omega)) c.g_is_treadling c.f_is_treadling.kp c.b_is_treadling (.cons (.var 0 rfl (.cons (.var 1 rfl (.nil (t_is_treadling c hl ⟨_, rfl, by rw [ht]; rfl, ?_⟩)))))))))
  refine .cons (.set 2 (.ix (.call hr c.g_reduced c.f_reduced.kp c.b_reduced (.cons (.var 0 rfl (.nil (t_reduced c ok h99 (.int (VI.tup rfl ?_)))))))) s_led_treadling.nd)
  refine .one (.ret (.bm PySem.F.plainAttrs_str PySem.F.slot_str_join PySem.F.type_str_join (.str ⟨.str, .cons ?_⟩)))
  refine WE.lc1 3 [("letter", 3)] rfl s_led_treadling.nd (show BlkOk n_led_treadling (defScope (top 42)) _ _ from ⟨rfl, by decide +kernel, by decide +kernel, by decide +kernel, by decide +kernel⟩) ?_
  refine WI.str (.var 1 rfl ⟨t, rfl, ?_⟩)
  refine CompT.step (fun x => D.str [x]) (fun pre acc M5 => acc = (pre.map fun x => [(redL v).getD (x - 97) 0]).map D.str ∧ M5 = M) ?_ (by rw [sizeLine_eq]; omega) ?_ ⟨rfl, rfl⟩
  · rintro pre x post acc M4 el ⟨rfl, rfl⟩
    have hx2 : x ∈ alpha.take v.lifts.length := of_decide_eq_true (List.all_eq_true.mp ht x (by rw [el]; simp))
    obtain ⟨i, hi, rfl⟩ := mem_alpha ok.l1 hx2
    refine ⟨_, rfl, fun s H C cl fp => .ix (.var 2 rfl (.bm PySem.F.plainAttrs_str PySem.F.slot_str_index PySem.F.type_str_index (.globS vl ⟨.str, .cons (.var 3 rfl (.nil (VM.sindex (occ_alpha ⟨i, by omega⟩) ?_)))⟩)))⟩
    refine VI.str (c := (redL v).getD (97 + i - 97) 0) (by rw [redL_len, sizeLine_eq]; omega) ?_ ⟨?_, rfl⟩
    · rw [TL.atI_nat, Nat.add_sub_cancel_left, List.getD_eq_getElem?_getD, List.getElem?_eq_getElem (by rw [redL_len]; exact hi)]; rfl
    · rw [List.map_append, List.map_append]; rfl
  rintro acc M4 ⟨rfl, rfl⟩
  refine .nil (VM.joinL ?_ ?_)
  · rw [List.map_map]
    have : ∀ l : List Nat, (l.map (List.length ∘ fun x => [(redL v).getD (x - 97) 0])).sum = l.length := by
      intro l
      induction l with
      | nil => rfl
      | cons a l ih => rw [List.map_cons, List.sum_cons, ih]; simp; omega
    rw [this]; omega
  · have : (t.map fun x => [(redL v).getD (x - 97) 0]).flatten = ledT v t := by
      unfold ledT
      rw [← flat_signs (t.map _), List.map_map]; rfl
    rw [this]
    exact h
/-- what is no treadling -/
inductive NoTr (v : LW) : D → Prop
  | txt {t : List Nat} (hl : t.length ≤ 1000) (ht : okTr v t = false) : NoTr v (.str t)
  | oth {d : D} {t : String} (ht : tyD d = some t) (hk : kitB t "str" = some false) : NoTr v d
theorem t_led_no (c : E81 w K mg base) {v : LW} {d : D} (hd : NoTr v d) {XQ : XDQ} (h : XQ (ga K "BadTreadling") [("thing", d)] M) :
    TFn P81 w K mg base 7 (ga K "led_treadling") (fdOf K ("led_treadling", none)) ["loom", "treadling"] [loomD K v, d] M Q XQ := by
  refine TFn.ofX c.f_led_treadling s_led_treadling rfl fun cdv A outer s H F hr => ?_
  obtain ⟨fd, bi, bb⟩ := c.bad
  have tr : TFn P81 w K mg base 1 (ga K "is_treadling") (fdOf K ("is_treadling", none)) ["loom", "thing"] [loomD K v, d] M fun d' M' => d' = .bl false ∧ M' = M := by
    cases hd with
    | txt hl ht => exact t_is_treadling c hl ⟨by rw [ht], rfl⟩
    | oth ht hk => exact t_is_treadling_no c ht hk ⟨rfl, rfl⟩
  refine .cons (.ite (.not (.val (.call (hr.mono (j := 1) (by omega)) c.g_is_treadling c.f_is_treadling.kp c.b_is_treadling (.cons (.var 0 rfl (.cons (.var 1 rfl (.nil (tr.imp ?_))))))))))
  rintro d' M' ⟨rfl, rfl⟩
  refine ⟨_, rfl, fun _ => ?_, fun z => (nomatch z)⟩
  refine .one (WSX.raise rfl bi bb c.n_super (by decide) (hr.mono (j := 1) (by omega)) c.g_BadTreadling (.var 1 rfl h))
end
end K81
end
section
set_option maxRecDepth 100000
/-! TDk: the deck of drawn numbers: a dict that holds a list and two ints. -/
namespace TL
open PySem PySem.Spec PyProof.Rows L2
section
variable {X : Cx} {M : Mp} {Q : DQ} {y : D} {a : Addr} {xs : List D}
theorem VO.neDM (hm : M a = some (.lst xs)) (hu : X.A.units + 64 < cLine) (hx : shp (.lst xs) = true) (hy : shp y = true) (h : Q (.bl (!TL.eqD (.lst xs) y)) M) : VO X (compareOp .NotEq) (.ref a) y M Q :=
  .op (op_neD hu) fun H F v1 v2 R r1 r2 => by
    simp only [shp, Bool.and_eq_true] at hx hy
    cases r1
    obtain ⟨vs, hv, r⟩ := R.lst hm
    exact ⟨.list (pys xs), _, .lst (.inl (.of hv)) (dp_monos R.sub (r.dp (by simpa [isPy] using hx.1))), dp_mono R.sub (r2.dp hy.1), by simpa [py] using hx.2, hy.2, F, M, _, Stp.refl R, .bl _, by simpa [TL.eqD, py] using h⟩
theorem VO.eqDM (hm : M a = some (.lst xs)) (hu : X.A.units + 64 < cLine) (hx : shp (.lst xs) = true) (hy : shp y = true) (h : Q (.bl (TL.eqD (.lst xs) y)) M) : VO X (compareOp .Eq) (.ref a) y M Q :=
  .op (op_eqD hu) fun H F v1 v2 R r1 r2 => by
    simp only [shp, Bool.and_eq_true] at hx hy
    cases r1
    obtain ⟨vs, hv, r⟩ := R.lst hm
    exact ⟨.list (pys xs), _, .lst (.inl (.of hv)) (dp_monos R.sub (r.dp (by simpa [isPy] using hx.1))), dp_mono R.sub (r2.dp hy.1), by simpa [py] using hx.2, hy.2, F, M, _, Stp.refl R, .bl _, by simpa [TL.eqD, py] using h⟩
end
section
variable {X : Cx} {M : Mp} {Q : DQ} {i j : Int}
/-- a rest, told by its bounds -/
theorem VO.modG (h1 : 0 < j) (h : ∀ r, 0 ≤ r → r < j → Q (.int r) M) : VO X (binaryOp .Mod) (.int i) (.int j) M Q := .mod h1 (h _ (Int.emod_nonneg _ (by omega)) (Int.emod_lt_of_pos _ h1))
theorem VO.mulS (h1 : -(2 ^ 64) < i) (h2 : i < 2 ^ 64) (h : Q (.int (i * j)) M) : VO X (binaryOp .Mult) (.int i) (.int j) M Q := .mul (.inl ⟨h1, h2⟩) h
theorem VO.mulR (h1 : -(2 ^ 64) < j) (h2 : j < 2 ^ 64) (h : Q (.int (i * j)) M) : VO X (binaryOp .Mult) (.int i) (.int j) M Q := .mul (.inr ⟨h1, h2⟩) h
end
/-- a def called by keywords -/
theorem kwB {K : PySem.W.Frag} {x qual : Str} {params : Arguments} {body : List Stmt} {scope : Scope} {f : Addr} {fd : FuncData} {ps ks : List Str} {b : Bool} (F : FunD K x qual params body scope [] [] f fd)
    (h : ∀ (kV doc pm : Value) (an : Option Addr) (cdv ct : Value) (ws : List Value), ws.length = ks.length → bindArgs (PySem.W.fnOf x qual params body scope .none kV doc pm an cdv ct) ⟨[], ks.zip ws⟩ = pure (ps.zip (turn b ws))) : KwB fd ps ks b := by
  intro s ws hl
  obtain ⟨oc, od, dV, kV, doc, pm, an, cdv, ct, osl, rfl, lk, hcd, hD, hK⟩ := F.ex
  rcases hD with ⟨_, rfl⟩ | ⟨e, _⟩
  · exact .of_eq (h kV doc pm an cdv ct ws hl)
  · exact absurd rfl e
/-- a written key -/
abbrev sk (s : String) : Key := .inr ⟨(lit s).toArray⟩
theorem sk_str (s : String) : D.str (lit s) = keyV (sk s) := (keyV_str (lit s)).symm
structure Dk where
  cells : List Int
  mixed : Int
  draws : Nat
/-- at most 63 cells, at most n draws -/
structure DkN (k : Dk) (n : Nat) : Prop where
  c : k.cells.length ≤ 63
  d : k.draws ≤ n
theorem DkN.mono {k : Dk} {n m : Nat} (h : DkN k n) (l : n ≤ m) : DkN k m := ⟨h.c, Nat.le_trans h.d l⟩
def dkO (c : Addr) (k : Dk) : List (Key × D) := [(sk "cells", .ref c), (sk "mixed", .int k.mixed), (sk "draws", .int k.draws)]
/-- the deck at a, its cells at c, over M -/
def dkM (a c : Addr) (k : Dk) (M : Mp) : Mp := mset (mset M c (.lst (k.cells.map D.int))) a (.dic (dkO c k))
theorem sk1 : (sk "cells" = sk "draws") = False := by simp only [eq_iff_iff, iff_false]; decide +kernel
theorem sk2 : (sk "mixed" = sk "draws") = False := by simp only [eq_iff_iff, iff_false]; decide +kernel
theorem sk3 : (sk "cells" = sk "mixed") = False := by simp only [eq_iff_iff, iff_false]; decide +kernel
section
variable {a c p : Addr} {k : Dk} {M : Mp}
theorem dk_look1 : lookK (dkO c k) (sk "cells") = some (.ref c) := by unfold dkO; rw [lookK_cons, if_pos rfl]
theorem dk_look2 : lookK (dkO c k) (sk "mixed") = some (.int k.mixed) := by unfold dkO; simp only [lookK_cons, sk3, if_false]; simp
theorem dk_look3 : lookK (dkO c k) (sk "draws") = some (.int k.draws) := by unfold dkO; simp only [lookK_cons, sk1, sk2, if_false]; simp
theorem dk_put {n : Nat} : putG (dkO c k) (sk "draws") (.int n) = dkO c { k with draws := n } := by
  have h1 : ¬ lit "cells" = lit "draws" := by decide +kernel
  have h2 : ¬ lit "mixed" = lit "draws" := by decide +kernel
  unfold putG dkO
  simp [h1, h2]
theorem dk_at : dkM a c k M a = some (.dic (dkO c k)) := mset_same
theorem dk_cells (h : c ≠ a) : dkM a c k M c = some (.lst (k.cells.map D.int)) := by unfold dkM; rw [mset_ne h, mset_same]
theorem dk_else (h1 : p ≠ a) (h2 : p ≠ c) : dkM a c k M p = M p := by unfold dkM; rw [mset_ne h1, mset_ne h2]
theorem dk_setA {k' : Dk} (e : k'.cells = k.cells) : mset (dkM a c k M) a (.dic (dkO c k')) = dkM a c k' M := by unfold dkM; rw [mset_mset, e]
theorem mset_comm {q r : Addr} {m n : MO} (h : q ≠ r) : mset (mset M q m) r n = mset (mset M r n) q m := by
  funext b
  unfold mset
  by_cases h1 : b = q
  · subst h1; simp [h]
  · by_cases h2 : b = r
    · subst h2; simp [h1]
    · simp [h1, h2]
theorem mdel_mset_ne {q r : Addr} {m : MO} (h : q ≠ r) : mdel (mset M q m) r = mset (mdel M r) q m := by
  funext b
  unfold mset mdel
  by_cases h1 : b = q
  · subst h1; simp [h]
  · by_cases h2 : b = r
    · subst h2; simp [h1]
    · simp [h1, h2]
theorem dk_setC (h : c ≠ a) {xs : List Int} : mset (dkM a c k M) c (.lst (xs.map D.int)) = dkM a c { k with cells := xs } M := by
  unfold dkM
  rw [mset_comm (Ne.symm h), mset_mset]
  rfl
theorem dk_none (h : dkM a c k M p = none) : p ≠ a ∧ p ≠ c ∧ M p = none := by
  have h1 : p ≠ a := fun e => by rw [e, dk_at] at h; cases h
  have h2 : p ≠ c := fun e => by
    subst e
    rw [dk_cells h1] at h; cases h
  rw [dk_else h1 h2] at h
  exact ⟨h1, h2, h⟩
/-- other things are written below the deck -/
theorem dk_mset (h1 : p ≠ a) (h2 : p ≠ c) {m : MO} : mset (dkM a c k M) p m = dkM a c k (mset M p m) := by
  unfold dkM
  rw [mset_comm (Ne.symm h1), mset_comm (Ne.symm h2)]
theorem dk_mdel (h1 : p ≠ a) (h2 : p ≠ c) : mdel (dkM a c k M) p = dkM a c k (mdel M p) := by
  unfold dkM
  rw [mdel_mset_ne (Ne.symm h1), mdel_mset_ne (Ne.symm h2)]
end
/-- what may be picked from -/
inductive Pk (a l : Addr) (M : Mp) : D → List D → Prop
  | lst (ds : List D) : Pk a l M (.lst ds) ds
  | tup (ds : List D) : Pk a l M (.tup ds) ds
  | str (x : List Nat) : Pk a l M (.str x) (x.map fun c => .str [c])
  | ref {p : Addr} {ds : List D} (h1 : p ≠ a) (h2 : p ≠ l) (h : M p = some (.lst ds)) : Pk a l M (.ref p) ds
theorem WDs.cons {X : Cx} {k v : Expr} {ks : List (Option Expr)} {vs : List Expr} {ρ : En} {M : Mp} {Q : List (D × D) → Mp → Prop} (h : WE X k ρ M fun x M1 => WE X v ρ M1 fun y M2 => WDs X ks vs ρ M2 fun ps M3 => Q ((x, y) :: ps) M3) : WDs X (some k :: ks) (v :: vs) ρ M Q := h
theorem WDs.nil {X : Cx} {ρ : En} {M : Mp} {Q : List (D × D) → Mp → Prop} (h : Q [] M) : WDs X [] [] ρ M Q := h
theorem merge_app {α : Type} : ∀ {kds acc : List (Key × α)}, ((acc ++ kds).map (·.1)).Nodup → mergeG acc kds = acc ++ kds
  | [], acc, _ => by rw [List.append_nil]; rfl
  | p :: kds, acc, h => by
    have hn : lookK acc p.1 = none := by
      cases e : lookK acc p.1 with
      | none => rfl
      | some u =>
        unfold lookK at e
        obtain ⟨q, hq, _⟩ := Option.map_eq_some_iff.mp e
        have h1 := List.mem_of_find?_eq_some hq
        have h2 := List.find?_some hq
        rw [List.map_append, List.nodup_append] at h
        exact absurd (of_decide_eq_true h2) (h.2.2 q.1 (List.mem_map_of_mem h1) p.1 (by simp))
    show mergeG (putG acc p.1 p.2) kds = _
    have e : putG acc p.1 p.2 = acc ++ [p] := by
      unfold putG
      rw [lookK_any, hn, Option.isSome_none, if_neg Bool.false_ne_true]
    rw [e, merge_app (by rwa [List.append_assoc]), List.append_assoc]
    rfl
theorem merge_nodup {α : Type} {kds : List (Key × α)} (h : (kds.map (·.1)).Nodup) : mergeG [] kds = kds := merge_app (by rwa [List.nil_append])
theorem nodup_len : ∀ (n : Nat) (l : List Int), l.Nodup → (∀ x ∈ l, 0 ≤ x ∧ x < n) → l.length ≤ n
  | 0, l, _, h => by
    cases l with
    | nil => simp
    | cons x l => have := h x (List.mem_cons_self ..); omega
  | n + 1, l, hn, h => by
    have h1 := nodup_len n (l.erase (n : Int)) (hn.erase _) fun x hx => by
      have h2 := (hn.mem_erase_iff).mp hx
      have := h x h2.2
      have := h2.1
      omega
    by_cases hm : (n : Int) ∈ l
    · rw [List.length_erase_of_mem hm] at h1; omega
    · rw [List.erase_of_not_mem hm] at h1; omega
theorem isS_int1 (i : Int) : isS (.int i) = true := by simp [isS]
theorem areS_ints (ns : List Int) : areS (ns.map D.int) = true := areS_of fun d hd => by
  obtain ⟨i, _, rfl⟩ := List.mem_map.mp hd
  exact isS_int1 i
theorem deps_ints (ns : List Int) : deps (ns.map D.int) = 0 := Nat.le_zero.mp (deps_le fun d hd => by
  obtain ⟨i, _, rfl⟩ := List.mem_map.mp hd
  exact Nat.le_refl 0)
theorem shp_lints (ns : List Int) : shp (.lst (ns.map D.int)) = true := shp_of (by simpa [isS] using areS_ints ns) (by simp [dep, deps_ints])
theorem shp_nil : shp (.lst []) = true := shp_of (by simp [isS, areS]) (by simp [dep, deps])
theorem eqD_lnil (xs : List D) : TL.eqD (.lst xs) (.lst []) = decide (xs = []) := by
  cases xs <;> simp [TL.eqD, py, pys, PyData.eqv, PyData.eqvAll]
end TL
end
section
set_option maxRecDepth 100000
set_option maxHeartbeats 0
/-! K81L: the law's deck. -/
namespace K81
open PySem PySem.Spec PyProof.Rows L2 TL
open He (ga ma fAd)
section
variable {w : World} {K : PySem.W.Frag} {mg : Str → Option Value} {base : Heap} {M : Mp} {Q : DQ}
/-- behind a draw -/
theorem t_draw (c : E81 w K mg base) {a l : Addr} {k : Dk} (hn : l ≠ a) {b : Int} (hb : 0 < b) (hb2 : b < 1073741824) {n : Nat} (kn : DkN k n) (hd : n < 1000000) (h : ∀ v k', 0 ≤ v → v < b → DkN k' (n + 1) → Q (.int v) (dkM a l k' M)) :
    TFn P81 w K mg base 1 (ga K "_law_draw") (fdOf K ("_law_draw", none)) ["_law_deck_here", "_law_below"] [.ref a, .int b] (dkM a l k M) Q := by
  refine TFn.of c.f__law_draw s__law_draw rfl fun cdv A outer s H F hr => ?_
  have hu := hr.room.units
  have kd := kn.d
  have kc := kn.c
  have hu1 : (A.deeper (envOfC "_law_draw" (defScope (top 45)) s.heap.objs.size (ga K "_law_draw") cdv)).units + 1 < cLine := by omega
  have below : ∀ x : Int, 0 ≤ x % b ∧ x % b < b := fun x => ⟨Int.emod_nonneg _ (by omega), Int.emod_lt_of_pos _ hb⟩
  refine .cons (.asg (.bin (.ix (.var 0 rfl (.str (VI.getM hu1 dk_at (sk_str _) dk_look3 (.int (VO.add ?_))))))))
  refine .sub (.var 0 rfl (.str (VT.dic hu1 dk_at (sk_str _) (by show 3 < sizeLine; decide) ?_)))
  rw [show ((k.draws : Int) + 1) = ((k.draws + 1 : Nat) : Int) by omega, dk_put, dk_setA (k := k) (k' := { k with draws := k.draws + 1 }) rfl]
  refine .cons (.par 2 3 rfl s__law_draw.nd (.cons (.ix (.var 0 rfl (.str (VI.getM hu1 dk_at (sk_str _) dk_look3 ?_))))))
  refine .cons (.ix (.var 0 rfl (.str (VI.getM hu1 dk_at (sk_str _) dk_look2 (.nil ⟨_, _, rfl, ?_⟩)))))
  -- the figures behind
  have fin : ∀ (f : Int) (k' : Dk) (x4 : Option D), DkN k' (n + 1) → WSs (cxOf (L2.CX P81 w) P81 w K mg base n__law_draw "_law_draw" (defScope (top 45)) (ga K "_law_draw") cdv A outer s H (XEnd K H F (dkM a l k M) noX)) ((defBody (top 45)).drop 3)
      [some (.ref a), some (.int b), some (.int ((k.draws + 1 : Nat) : Int)), some (.int f), x4] (dkM a l k' M) { nx := fun _ M' => Q .non M', rt := Q } := by
    intro f k' x4 hk'
    refine .cons <| .setN 3 s__law_draw.nd <| .bin <| .bin <| .callTy c.n_int rfl <| .cons <| .bin <| .bin <| .bin <| .callTy c.n_int rfl <| .cons <| .var 3 rfl <| .nil <| VC.int1 <| .int <| VO.modG (by decide) fun r1 h1 h2 => ?_
    refine .bin <| .bin <| .int <| .var 2 rfl <| VO.mulS (by decide) (by decide) <| .var 2 rfl <| VO.mulR (by omega) (by omega) <| VO.add <| .int <| VO.add <| .nil <| VC.int1 <| .int <| VO.mulR (by decide) (by decide) <| .int <| VO.modG (by decide) fun r2 h3 h4 => ?_
    refine .cons <| .setN 3 s__law_draw.nd <| .bin <| .callTy c.n_int rfl <| .cons <| .bin <| .bin <| .bin <| .var 3 rfl <| .var 3 rfl <| VO.mulR (by omega) (by omega) <| .bin <| .int <| .var 2 rfl <| VO.mulS (by decide) (by decide) <| VO.add <| .int <| VO.add <| .nil <| VC.int1 <| .int <| VO.modG (by decide) fun r3 h5 h6 => ?_
    refine .one <| .ret <| .bin <| .bin <| .bin <| .callTy c.n_int rfl <| .cons <| .bin <| .var 3 rfl <| .int <| VO.mulR (by decide) (by decide) <| .nil <| VC.int1 <| .int <| VO.modG (by decide) fun r4 h7 h8 => .int <| VO.fdiv (by decide) (by decide) <| .var 1 rfl <| VO.modG hb fun v v0 v1 => ?_
    exact h v k' v0 v1 hk'
  refine .cons <| .ite <| .cmp <| .ix <| .var 0 rfl <| .str <| VI.getM hu1 dk_at (sk_str _) dk_look1 <| .list <| .nil ⟨by show 0 ≤ sizeLine; decide, ?_⟩
  refine VO.neDM (dk_cells hn) hu (shp_lints _) shp_nil ⟨_, rfl, fun z => ?_, fun z => .done ?_⟩
  · rw [eqD_lnil] at z
    have hne : k.cells ≠ [] := by simpa using z
    obtain ⟨xs, d, hx⟩ : ∃ xs d, k.cells = xs ++ [d] := ⟨_, _, (List.dropLast_concat_getLast hne).symm⟩
    refine .cons <| .setN 4 s__law_draw.nd <| .callTy c.n_int rfl <| .cons <| .bm0 PySem.F.plainAttrs_list PySem.F.slot_list_pop PySem.F.type_list_pop <| .ix <| .var 0 rfl <| .str <| VI.getM hu1 dk_at (sk_str _) dk_look1 ⟨.lstM (dk_cells hn), ?_⟩
    refine VM.pop (xs := xs.map D.int) (d := .int d) (by rw [dk_cells hn, hx, List.map_append]; rfl) ?_
    rw [dk_setC hn]
    refine .nil <| VC.int1 ?_
    refine .cons <| .ite <| .cmp <| .var 4 rfl <| .bin <| .int <| .int <| VO.pow ⟨by decide, by decide, by decide⟩ <| VO.ge ⟨_, rfl, fun z2 => ?_, fun z2 => .done ?_⟩
    · refine .cons <| .expr <| .bm PySem.F.plainAttrs_list PySem.F.slot_list_append PySem.F.type_list_append <| .ix <| .var 0 rfl <| .str <| VI.getM hu1 dk_at (sk_str _) dk_look1 ⟨.lstM (dk_cells hn), ?_⟩
      refine .cons <| .bin <| .var 4 rfl <| .var 1 rfl <| VO.fdiv hb hb2 <| .nil <| VM.append (dk_cells hn) ?_ ?_
      · have := congrArg List.length hx
        rw [List.length_append] at this
        rw [List.length_map, sizeLine_eq]
        show xs.length < _
        omega
      · rw [show (xs.map D.int ++ [D.int (d / b)]) = (xs ++ [d / b]).map D.int by rw [List.map_append]; rfl, dk_setC hn]
        refine .one <| .ret <| .bin <| .var 4 rfl <| .var 1 rfl <| VO.modG hb fun v v0 v1 => h v _ v0 v1 ⟨by have := congrArg List.length hx; simp at this ⊢; omega, by show k.draws + 1 ≤ _; omega⟩
    · refine .one <| .setN 3 s__law_draw.nd <| .bin <| .var 3 rfl <| .bin <| .var 4 rfl <| .int <| VO.modG (by decide) fun r h1 h2 => VO.add ?_
      exact fin _ _ _ ⟨by have := congrArg List.length hx; simp at this ⊢; omega, by show k.draws + 1 ≤ _; omega⟩
  · exact fin _ _ _ ⟨kc, by show k.draws + 1 ≤ _; omega⟩
/-- one of some -/
theorem t_pick (c : E81 w K mg base) {a l : Addr} {k : Dk} (hn : l ≠ a) {n : Nat} (kn : DkN k n) (hd : n < 1000000) {z : D} {ds : List D} (hz : Pk a l M z ds) (h0 : ds ≠ []) (hl : ds.length ≤ 1000)
    (h : ∀ d ∈ ds, ∀ k', DkN k' (n + 1) → Q d (dkM a l k' M)) :
    TFn P81 w K mg base 2 (ga K "_law_pick") (fdOf K ("_law_pick", none)) ["_law_deck_here", "_law_some"] [.ref a, z] (dkM a l k M) Q := by
  refine TFn.of c.f__law_pick s__law_pick rfl fun cdv A outer s H F hr => ?_
  have hpos : 0 < ds.length := List.length_pos_iff.mpr h0
  have key : ∀ v : Int, 0 ≤ v → v < (ds.length : Nat) → ∃ i, v = ((i : Nat) : Int) ∧ ∃ hi : i < ds.length, ∀ k', DkN k' (n + 1) → Q ds[i] (dkM a l k' M) := fun v h1 h2 =>
    ⟨v.toNat, by omega, by omega, fun k' q => h _ (List.getElem_mem _) k' q⟩
  have hs := sizeLine_eq
  refine .one <| .ret <| .ix <| .var 1 rfl <| .call hr c.g__law_draw c.f__law_draw.kp c.b__law_draw <| .cons <| .var 0 rfl <| .cons <| .callB c.n_len rfl <| .cons <| .var 1 rfl <| .nil ?_
  cases hz with
  | lst =>
    refine VC.len (n := ds.length) (by simp [lenD]) <| .nil <| t_draw c hn (by omega) (by omega) kn hd fun v k' v0 v1 q => ?_
    obtain ⟨i, rfl, hi, hq⟩ := key v v0 v1
    exact VI.lst (by rw [TL.atI_nat, List.getElem?_eq_getElem hi]) (hq k' q)
  | tup =>
    refine VC.len (n := ds.length) (by simp [lenD]) <| .nil <| t_draw c hn (by omega) (by omega) kn hd fun v k' v0 v1 q => ?_
    obtain ⟨i, rfl, hi, hq⟩ := key v v0 v1
    exact VI.tup (by rw [TL.atI_nat, List.getElem?_eq_getElem hi]) (hq k' q)
  | str x =>
    rw [List.length_map] at hl hpos
    refine VC.len (n := x.length) (by simp [lenD]; omega) <| .nil <| t_draw c hn (by omega) (by omega) kn hd fun v k' v0 v1 q => ?_
    obtain ⟨i, rfl, hi, hq⟩ := key v v0 (by rw [List.length_map]; exact v1)
    have := hq k' q
    rw [List.length_map] at hi
    rw [List.getElem_map] at this
    exact VI.str (by omega) (by rw [TL.atI_nat, List.getElem?_eq_getElem hi]) this
  | ref h1 h2 hp =>
    refine VC.lenM (by rw [dk_else h1 h2]; exact hp) <| .nil <| t_draw c hn (by omega) (by omega) kn hd fun v k' v0 v1 q => ?_
    obtain ⟨i, rfl, hi, hq⟩ := key v v0 v1
    exact VI.lstM (by rw [dk_else h1 h2]; exact hp) (by rw [TL.atI_nat, List.getElem?_eq_getElem hi]) (hq k' q)
/-- a drawn text -/
theorem t_word (c : E81 w K mg base) {a l : Addr} {k : Dk} (hn : l ≠ a) {n : Nat} (kn : DkN k n) {x : List Nat} (h0 : x ≠ []) (hl : x.length ≤ 1000) {m : Nat} (hm : m ≤ 1000) (hd : n + m < 1000000)
    (h : ∀ t k', t.length = m → (∀ y ∈ t, y ∈ x) → DkN k' (n + m) → Q (.str t) (dkM a l k' M)) :
    TFn P81 w K mg base 3 (ga K "_law_word") (fdOf K ("_law_word", none)) ["_law_deck_here", "_law_signs", "_law_many"] [.ref a, .str x, .int m] (dkM a l k M) Q := by
  refine TFn.of c.f__law_word s__law_word rfl fun cdv A outer s H F hr => ?_
  refine .one <| .ret <| .bm PySem.F.plainAttrs_str PySem.F.slot_str_join PySem.F.type_str_join <| .str ⟨.str, .cons ?_⟩
  refine WE.lc1 3 [("_law_k", 3)] rfl s__law_word.nd (show BlkOk n__law_word (defScope (top 47)) _ _ from ⟨rfl, by decide +kernel, by decide +kernel, by decide +kernel, by decide +kernel⟩) ?_
  refine WI.range1 c.n_range <| .var 2 rfl ⟨_, rfl, by omega, by omega, ?_⟩
  rw [Int.toNat_natCast]
  unfold rng
  refine CompT.step (fun (i : Nat) => D.int (0 + (i : Int))) (fun pre acc M' => ∃ t k', acc = (t.map fun y => [y]).map D.str ∧ t.length = pre.length ∧ (∀ y ∈ t, y ∈ x) ∧ DkN k' (n + pre.length) ∧ M' = dkM a l k' M) ?_ (by rw [List.length_range, sizeLine_eq]; omega) ?_ ⟨[], k, rfl, rfl, by simp, kn, rfl⟩
  · rintro pre i post acc M' e ⟨t, k', rfl, ht, hx, kn', rfl⟩
    have hp : pre.length < m := by
      have := congrArg List.length e
      simp at this; omega
    refine ⟨_, rfl, fun s H C cl fp => .call hr c.g__law_pick c.f__law_pick.kp c.b__law_pick <| .cons <| .var 0 rfl <| .cons <| .var 1 rfl <| .nil <| t_pick c hn kn' (by omega) (.str x) (by simpa using h0) (by simpa using hl) fun d hd' k2 kn2 => ?_⟩
    obtain ⟨y, hy, rfl⟩ := List.mem_map.mp hd'
    refine ⟨t ++ [y], k2, by simp, by simp [ht], ?_, by rw [List.length_append]; exact kn2, rfl⟩
    intro z hz
    rcases List.mem_append.mp hz with hz | hz
    · exact hx z hz
    · rw [List.mem_singleton.mp hz]; exact hy
  · rintro acc M' ⟨t, k', rfl, ht, hx, kn', rfl⟩
    rw [List.length_range] at ht kn'
    refine .nil <| VM.joinL ?_ ?_
    · rw [List.map_map]
      have : ∀ l : List Nat, (l.map (List.length ∘ fun y => [y])).sum = l.length := by
        intro l
        induction l with
        | nil => rfl
        | cons a l ih => rw [List.map_cons, List.sum_cons, ih]; simp; omega
      rw [this]; omega
    · rw [flat_signs]
      exact h t k' ht hx kn'
end
end K81
end
section
set_option maxRecDepth 100000
set_option maxHeartbeats 0
/-! K81M: the law's looms. -/
namespace K81
open PySem PySem.Spec PyProof.Rows L2 TL
open He (ga ma fAd)
/-- the parts of a loom, as the law has them -/
def wO (v : LW) : List (Key × D) := [(sk "shafts", .int v.sh), (sk "ends", tupI v.ends), (sk "lifts", .tup (v.lifts.map tupI))]
def wD (v : LW) : D := .dic (wO v)
theorem w_look1 {v : LW} : lookK (wO v) (sk "shafts") = some (.int v.sh) := by unfold wO; rw [lookK_cons, if_pos rfl]
theorem w_look2 {v : LW} : lookK (wO v) (sk "ends") = some (tupI v.ends) := by
  have h : ¬ lit "shafts" = lit "ends" := by decide +kernel
  unfold wO; simp [lookK_cons, h]
theorem w_look3 {v : LW} : lookK (wO v) (sk "lifts") = some (.tup (v.lifts.map tupI)) := by
  have h : ¬ lit "shafts" = lit "lifts" := by decide +kernel
  have h2 : ¬ lit "ends" = lit "lifts" := by decide +kernel
  unfold wO; simp [lookK_cons, h, h2]
theorem w_merge {v : LW} : mergeG [] (wO v) = wO v := merge_nodup (show ([sk "shafts", sk "ends", sk "lifts"] : List Key).Nodup by decide +kernel)
/-- what the law draws -/
structure LawW (v : LW) : Prop where
  ok : v.Ok
  s4 : v.sh ≤ 4
  e9 : v.ends.length ≤ 9
  l4 : v.lifts.length ≤ 4
structure LiftOk (sh : Int) (l : List Int) : Prop where
  nd : l.Nodup
  bd : ∀ i ∈ l, 0 ≤ i ∧ i < sh
theorem LiftOk.len {sh : Int} {l : List Int} (h : LiftOk sh l) (h4 : sh ≤ 4) : l.length ≤ 4 := nodup_len 4 l h.nd fun x hx => by have := h.bd x hx; omega
section
variable {w : World} {K : PySem.W.Frag} {mg : Str → Option Value} {base : Heap} {M : Mp} {Q : DQ}
/-- in the midst of a lift -/
def LoomR (a p q l : Addr) (sh : Int) (mn i n : Nat) (es : List Int) (ls : List (List Int)) (M : Mp) (m : Nat) : En → Mp → Prop := fun ρ M' => ∃ (xs : List Int) (k' : Dk), LiftOk sh xs ∧ DkN k' (n + 20 + 10 * i + m) ∧
  ρ = [some (.ref a), some (.int sh), some (.int mn), some (.ref p), some (.int i), some (.ref q), some (.lst (xs.map D.int)), none] ∧ M' = dkM a l k' (mset (mset M p (.lst (es.map D.int))) q (.lst (ls.map tupI)))
theorem t_law_loom (c : E81 w K mg base) {a l : Addr} {k : Dk} (hn : l ≠ a) {n : Nat} (kn : DkN k n) (hd : n < 900000)
    (h : ∀ v k', LawW v → v.ends.length ≤ 7 → DkN k' (n + 100) → Q (wD v) (dkM a l k' M)) :
    TFn P81 w K mg base 3 (ga K "_law_loom") (fdOf K ("_law_loom", none)) ["_law_deck_here"] [.ref a] (dkM a l k M) Q := by
  refine TFn.of c.f__law_loom s__law_loom rfl fun cdv A outer s H F hr => ?_
  have hr1 := hr.mono (j := 1) (by omega)
  have hs := sizeLine_eq
  refine .cons <| .par 1 2 rfl s__law_loom.nd <| .cons <| .call hr c.g__law_pick c.f__law_pick.kp c.b__law_pick <| .cons <| .var 0 rfl <| .cons <| .list <| .cons <| .int <| .cons <| .int <| .cons <| .int <| .cons <| .int <| .cons <| .int <| .cons <| .int <| .cons <| .int <| .cons <| .int <| .nil ⟨by show 8 ≤ sizeLine; decide, .nil ?_⟩
  refine t_pick c hn kn (by omega) (.lst _) (by simp) (by simp) fun d hd' k1 kn1 => ?_
  obtain ⟨sh, rfl, s1, s4⟩ : ∃ sh : Int, d = .int sh ∧ 1 ≤ sh ∧ sh ≤ 4 := by
    simp at hd'
    rcases hd' with rfl | rfl | rfl | rfl <;> exact ⟨_, rfl, by decide, by decide⟩
  refine .cons <| .call hr c.g__law_pick c.f__law_pick.kp c.b__law_pick <| .cons <| .var 0 rfl <| .cons <| .list <| .cons <| .int <| .cons <| .int <| .cons <| .int <| .cons <| .int <| .cons <| .int <| .cons <| .int <| .cons <| .int <| .cons <| .int <| .nil ⟨by show 8 ≤ sizeLine; decide, .nil ?_⟩
  refine t_pick c hn kn1 (by omega) (.lst _) (by simp) (by simp) fun d hd' k2 kn2 => ?_
  obtain ⟨mn, rfl, m1, m4⟩ : ∃ mn : Nat, d = .int mn ∧ 1 ≤ mn ∧ mn ≤ 4 := by
    simp at hd'
    rcases hd' with rfl | rfl | rfl | rfl
    · exact ⟨1, rfl, by decide, by decide⟩
    · exact ⟨2, rfl, by decide, by decide⟩
    · exact ⟨3, rfl, by decide, by decide⟩
    · exact ⟨4, rfl, by decide, by decide⟩
  refine .nil ⟨_, _, rfl, ?_⟩
  -- the ends
  refine .cons <| .setN 3 s__law_loom.nd <| .listM <| .nil ⟨by show 0 ≤ sizeLine; decide, fun p hp => ?_⟩
  obtain ⟨pa, pl, hp⟩ := dk_none hp
  rw [dk_mset pa pl]
  refine .cons <| .for (L2.passes_of rfl) rfl ?_
  refine WI.range1 c.n_range <| .call hr c.g__law_pick c.f__law_pick.kp c.b__law_pick <| .cons <| .var 0 rfl <| .cons <| .list <| .cons <| .int <| .cons <| .int <| .cons <| .int <| .cons <| .int <| .cons <| .int <| .cons <| .int <| .cons <| .int <| .nil ⟨by show 7 ≤ sizeLine; decide, .nil ?_⟩
  refine t_pick c hn kn2 (by omega) (.lst _) (by simp) (by simp) fun d hd' k3 kn3 => ?_
  obtain ⟨en, rfl, e1, e7⟩ : ∃ en : Nat, d = .int en ∧ 1 ≤ en ∧ en ≤ 7 := by
    simp at hd'
    rcases hd' with rfl | rfl | rfl | rfl | rfl | rfl | rfl
    · exact ⟨1, rfl, by decide, by decide⟩
    · exact ⟨2, rfl, by decide, by decide⟩
    · exact ⟨3, rfl, by decide, by decide⟩
    · exact ⟨4, rfl, by decide, by decide⟩
    · exact ⟨5, rfl, by decide, by decide⟩
    · exact ⟨6, rfl, by decide, by decide⟩
    · exact ⟨7, rfl, by decide, by decide⟩
  refine ⟨_, rfl, by omega, by omega, ?_⟩
  rw [Int.toNat_natCast]
  unfold rng
  refine ForT.map (fun (i : Nat) => D.int (0 + (i : Int))) (fun pre ρ M' => (∃ x4, ρ = [some (.ref a), some (.int sh), some (.int mn), some (.ref p), x4, none, none, none]) ∧ ∃ (es : List Int) (k' : Dk), es.length = pre.length ∧ (∀ i ∈ es, 0 ≤ i ∧ i < sh) ∧ DkN k' (n + 3 + 2 * pre.length) ∧ M' = dkM a l k' (mset M p (.lst (es.map D.int)))) ?_ ?_ ⟨⟨none, rfl⟩, [], k3, rfl, by simp, kn3, rfl⟩
  · rintro pre i post ρ M' e ⟨⟨x4, rfl⟩, es, k', el, eb, kn', rfl⟩
    obtain ⟨rfl, hi⟩ := range_split e
    rw [List.length_range] at el kn'
    refine .nameN 4 s__law_loom.nd ?_
    rw [Int.zero_add]
    have app : ∀ (x : Int) k'', 0 ≤ x → x < sh → DkN k'' (n + 3 + 2 * (i + 1)) → ∃ (es' : List Int) (k' : Dk), es'.length = (List.range i ++ [i]).length ∧ (∀ i ∈ es', 0 ≤ i ∧ i < sh) ∧ DkN k' (n + 3 + 2 * (List.range i ++ [i]).length) ∧ mset (dkM a l k'' (mset M p (.lst (es.map D.int)))) p (.lst (es.map D.int ++ [.int x])) = dkM a l k' (mset M p (.lst (es'.map D.int))) := by
      intro x k'' x0 x1 kn''
      refine ⟨es ++ [x], k'', by simp [el], ?_, by simpa using kn'', ?_⟩
      · intro y hy
        rcases List.mem_append.mp hy with hy | hy
        · exact eb y hy
        · rw [List.mem_singleton.mp hy]; exact ⟨x0, x1⟩
      · rw [dk_mset pa pl, mset_mset, List.map_append]; rfl
    refine .one <| .expr <| .bm PySem.F.plainAttrs_list PySem.F.slot_list_append PySem.F.type_list_append <| .var 3 rfl ⟨.lstM (by rw [dk_else pa pl, mset_same]), ?_⟩
    refine .cons <| .ife <| .cmp <| .call hr1 c.g__law_draw c.f__law_draw.kp c.b__law_draw <| .cons <| .var 0 rfl <| .cons <| .int <| .nil <| t_draw c hn (by decide) (by decide) kn' (by omega) fun v k4 v0 v1 kn4 => .int <| VO.gt ⟨_, rfl, fun z => ?_, fun z => ?_⟩
    · exact .bin <| .callTy c.n_int rfl <| .cons <| .var 4 rfl <| .nil <| VC.int1 <| .var 1 rfl <| VO.modG (by omega) fun r r0 r1 => .nil <| VM.append (by rw [dk_else pa pl, mset_same]) (by rw [List.length_map]; omega) ⟨⟨_, rfl⟩, app r k4 r0 r1 (kn4.mono (by omega))⟩
    · exact .call hr1 c.g__law_draw c.f__law_draw.kp c.b__law_draw <| .cons <| .var 0 rfl <| .cons <| .var 1 rfl <| .nil <| t_draw c hn (by omega) (by omega) kn4 (by omega) fun v k5 v0 v1 kn5 => .nil <| VM.append (by rw [dk_else pa pl, mset_same]) (by rw [List.length_map]; omega) ⟨⟨_, rfl⟩, app v k5 v0 v1 (kn5.mono (by omega))⟩
  rintro ρ M' ⟨⟨x4, rfl⟩, es, k', el, eb, kn', rfl⟩
  rw [List.length_range] at el kn'
  refine ⟨[some (.ref a), some (.int sh), some (.int mn), some (.ref p), none, none, none, none], by simp [Le], ?_⟩
  -- the lifts
  refine .cons <| .setN 5 s__law_loom.nd <| .listM <| .nil ⟨by show 0 ≤ sizeLine; decide, fun q hq => ?_⟩
  obtain ⟨qa, ql, hq⟩ := dk_none hq
  have qp : q ≠ p := fun e => by rw [e, mset_same] at hq; cases hq
  rw [mset_ne qp] at hq
  rw [dk_mset qa ql]
  refine .cons <| .for (L2.passes_of rfl) rfl ?_
  refine WI.range1 c.n_range <| .var 2 rfl ⟨_, rfl, by omega, by omega, ?_⟩
  rw [Int.toNat_natCast]
  unfold rng
  refine ForT.map (fun (i : Nat) => D.int (0 + (i : Int))) (fun pre ρ M' => (∃ x4 x6, ρ = [some (.ref a), some (.int sh), some (.int mn), some (.ref p), x4, some (.ref q), x6, none]) ∧ ∃ (ls : List (List Int)) (k' : Dk), ls.length = pre.length ∧ (∀ i ∈ ls, LiftOk sh i ∧ riseB i = true) ∧ DkN k' (n + 20 + 10 * pre.length) ∧ M' = dkM a l k' (mset (mset M p (.lst (es.map D.int))) q (.lst (ls.map tupI)))) ?_ ?_ ⟨⟨none, none, rfl⟩, [], k', rfl, by simp, kn'.mono (by simp; omega), rfl⟩
  · rintro pre i post ρ M' e ⟨⟨x4, x6, rfl⟩, ls, k', ll, lb, kn', rfl⟩
    obtain ⟨rfl, hi⟩ := range_split e
    rw [List.length_range] at ll kn'
    refine .nameN 4 s__law_loom.nd ?_
    rw [Int.zero_add]
    have atq : ∀ k', dkM a l k' (mset (mset M p (.lst (es.map D.int))) q (.lst (ls.map tupI))) q = some (.lst (ls.map tupI)) := fun k' => by rw [dk_else qa ql, mset_same]
    refine .cons <| WS.setLc1 6 7 [("_law_n", 7)] rfl s__law_loom.nd (show BlkOk n__law_loom (defScope (top 48)) _ _ from ⟨rfl, by decide +kernel, by decide +kernel, by decide +kernel, by decide +kernel⟩) ?_
    refine WI.range1 c.n_range <| .var 1 rfl ⟨_, rfl, by omega, by omega, ?_⟩
    unfold rng
    refine CompT.stepIf (fun (i : Nat) => D.int (0 + (i : Int))) (fun pre acc M' => ∃ (xs : List Int) (k' : Dk), acc = xs.map D.int ∧ xs.Sublist (pre.map fun (i : Nat) => (i : Int)) ∧ DkN k' (n + 20 + 10 * i + pre.length) ∧ M' = dkM a l k' (mset (mset M p (.lst (es.map D.int))) q (.lst (ls.map tupI)))) ?_ (by rw [List.length_range]; omega) ?_ ⟨[], k', rfl, by simp, kn', rfl⟩
    · rintro pre j post acc M' e2 ⟨xs, k', rfl, sl, kn', rfl⟩
      have hpl : pre.length < 4 := by
        have := congrArg List.length e2
        simp at this; omega
      refine ⟨_, rfl, fun b M1 => ∃ k', DkN k' (n + 20 + 10 * i + pre.length + 1) ∧ M1 = dkM a l k' (mset (mset M p (.lst (es.map D.int))) q (.lst (ls.map tupI))), fun s H C cl fp => ?_, ?_, ?_⟩
      · exact .cmp <| .call hr1 c.g__law_draw c.f__law_draw.kp c.b__law_draw <| .cons <| .var 0 rfl <| .cons <| .int <| .nil <| t_draw c hn (by decide) (by decide) kn' (by omega) fun v k4 v0 v1 kn4 => .int <| VO.eqI ⟨_, rfl, k4, kn4, rfl⟩
      · rintro M1 ⟨k4, kn4, rfl⟩
        exact ⟨xs, k4, rfl, by rw [List.map_append]; exact sl.trans (List.sublist_append_left ..), by rw [List.length_append]; exact kn4, rfl⟩
      · rintro M1 ⟨k4, kn4, rfl⟩
        exact fun s H C cl fp => .var 7 rfl ⟨xs ++ [(j : Int)], k4, by rw [List.map_append, Int.zero_add]; rfl, by rw [List.map_append]; exact sl.append (List.Sublist.refl _), by rw [List.length_append]; exact kn4, rfl⟩
    rintro acc M' ⟨xs, k', rfl, sl, kn', rfl⟩
    rw [List.length_range] at kn'
    have lo : LiftOk sh xs := by
      refine ⟨sl.nodup (List.Pairwise.map (fun (i : Nat) => (i : Int)) (fun a b h => by omega) List.nodup_range), fun y hy => ?_⟩
      obtain ⟨j, hj, rfl⟩ := List.mem_map.mp (sl.subset hy)
      have := List.mem_range.mp hj
      omega
    have shn : sh.toNat ≤ 4 := by omega
    refine .cut (LoomR a p q l sh mn i n es ls M 6) ?_ ?_
    · refine .ite <| .ww <| .and <| .cmp <| .var 4 rfl <| .int <| VO.gt ⟨_, rfl, fun z => ⟨fun z => (nomatch z), fun _ => .done ⟨xs, k', lo, kn'.mono (by omega), rfl, rfl⟩⟩, fun z => ?_⟩
      have z := of_decide_eq_true z
      refine .and1 <| .cmp <| .call hr1 c.g__law_draw c.f__law_draw.kp c.b__law_draw <| .cons <| .var 0 rfl <| .cons <| .int <| .nil <| t_draw c hn (by decide) (by decide) kn' (by omega) fun v k4 v0 v1 kn4 => .int <| VO.eqI ⟨_, rfl, fun _ => ?_, fun _ => .done ⟨xs, k4, lo, kn4.mono (by omega), rfl, rfl⟩⟩
      refine .one <| .setN 6 s__law_loom.nd <| .callTy c.n_list rfl <| .cons <| .call hr c.g__law_pick c.f__law_pick.kp c.b__law_pick <| .cons <| .var 0 rfl <| .cons <| .var 5 rfl <| .nil <| t_pick c hn kn4 (by omega) (.ref qa ql mset_same) (by
        intro e
        have := congrArg List.length e
        rw [List.length_map, ll] at this
        simp at this; omega) (by rw [List.length_map]; omega) fun d hd' k5 kn5 => ?_
      obtain ⟨m, hm, rfl⟩ := List.mem_map.mp hd'
      exact .nil <| VC.listT ⟨m, k5, (lb m hm).1, kn5.mono (by omega), rfl, rfl⟩
    rintro ρ' M' ⟨xs, k', lo, kn', rfl, rfl⟩
    refine .cut (LoomR a p q l sh mn i n es ls M 7) ?_ ?_
    · refine .ite <| .ww <| .and <| .cmp <| .var 1 rfl <| .int <| VO.gt ⟨_, rfl, fun z => ⟨fun z => (nomatch z), fun _ => .done ⟨xs, k', lo, kn'.mono (by omega), rfl, rfl⟩⟩, fun z => ?_⟩
      have z := of_decide_eq_true z
      refine .and1 <| .cmp <| .call hr1 c.g__law_draw c.f__law_draw.kp c.b__law_draw <| .cons <| .var 0 rfl <| .cons <| .int <| .nil <| t_draw c hn (by decide) (by decide) kn' (by omega) fun v k4 v0 v1 kn4 => .int <| VO.eqI ⟨_, rfl, fun _ => ?_, fun _ => .done ⟨xs, k4, lo, kn4.mono (by omega), rfl, rfl⟩⟩
      have xl := lo.len s4
      refine .one <| .setN 6 s__law_loom.nd <| .bin ?_
      refine WE.lc1 7 [("_law_n", 7)] rfl s__law_loom.nd (show BlkOk n__law_loom (defScope (top 48)) _ _ from ⟨rfl, by decide +kernel, by decide +kernel, by decide +kernel, by decide +kernel⟩) ?_
      refine WI.list <| .var 6 rfl ⟨_, rfl, ?_⟩
      refine CompT.stepIf D.int (fun pre acc M' => acc = (pre.filter fun x => decide (x ≠ 1)).map D.int ∧ M' = dkM a l k4 (mset (mset M p (.lst (es.map D.int))) q (.lst (ls.map tupI)))) ?_ (by omega) ?_ ⟨rfl, rfl⟩
      · rintro pre x post acc M' e2 ⟨rfl, rfl⟩
        refine ⟨_, rfl, fun b M1 => b = decide (x ≠ 1) ∧ M1 = dkM a l k4 (mset (mset M p (.lst (es.map D.int))) q (.lst (ls.map tupI))), fun s H C cl fp => .cmp <| .var 7 rfl <| .int <| VO.neI ⟨_, rfl, by simp, rfl⟩, ?_, ?_⟩
        · rintro M1 ⟨z, rfl⟩
          have := of_decide_eq_false z.symm
          exact ⟨by rw [List.filter_append]; simp [show x = 1 by omega], rfl⟩
        · rintro M1 ⟨z, rfl⟩
          have := of_decide_eq_true z.symm
          exact fun s H C cl fp => .var 7 rfl ⟨by rw [List.filter_append]; simp [this], rfl⟩
      rintro acc M' ⟨rfl, rfl⟩
      have fl : (xs.filter fun x => decide (x ≠ 1)).length ≤ xs.length := List.length_filter_le ..
      have fn : (xs.filter fun x => decide (x ≠ 1)).Nodup := lo.nd.filter _
      have fb : ∀ y ∈ xs.filter fun x => decide (x ≠ 1), y ∈ xs ∧ y ≠ 1 := fun y hy => by simpa using hy
      refine .ife <| .cmp <| .int <| .var 6 rfl <| VO.inL rfl (flat_ints _) ⟨_, rfl, fun z => ?_, fun z => ?_⟩
      · refine .list <| .cons <| .int <| .nil ⟨by show 1 ≤ sizeLine; decide, VO.catL (by simp at *; omega) ⟨(xs.filter fun x => decide (x ≠ 1)) ++ [1], k4, ⟨?_, ?_⟩, kn4.mono (by omega), by rw [List.map_append]; rfl, rfl⟩⟩
        · exact List.nodup_append.mpr ⟨fn, by simp, fun x hx y hy e => (fb x hx).2 (by rw [e]; simpa using hy)⟩
        · intro y hy
          rcases List.mem_append.mp hy with hy | hy
          · exact lo.bd y (fb y hy).1
          · rw [List.mem_singleton.mp hy]; omega
      · refine .list <| .nil ⟨by show 0 ≤ sizeLine; decide, VO.catL (by simp at *; omega) ⟨(xs.filter fun x => decide (x ≠ 1)), k4, ⟨fn, fun y hy => lo.bd y (fb y hy).1⟩, kn4.mono (by omega), by rw [List.append_nil]; rfl, rfl⟩⟩
    rintro ρ' M' ⟨xs, k', lo, kn', rfl, rfl⟩
    have xl := lo.len s4
    refine .one <| .expr <| .bm PySem.F.plainAttrs_list PySem.F.slot_list_append PySem.F.type_list_append <| .var 5 rfl ⟨.lstM (atq _), .cons <| .callTy c.n_tuple rfl <| .cons <| .callB c.n_sorted rfl <| .cons <| .var 6 rfl <| .nil <| VC.sorted <| .nil <| VC.tupleL <| .nil <| VM.append (atq _) (by rw [List.length_map]; omega) ?_⟩
    refine ⟨⟨_, _, rfl⟩, ls ++ [sortI xs], k', by simp [ll], ?_, by rw [List.length_append, List.length_range]; exact kn'.mono (by simp; omega), by rw [dk_mset qa ql, mset_mset, List.map_append]; rfl⟩
    intro y hy
    rcases List.mem_append.mp hy with hy | hy
    · exact lb y hy
    · rw [List.mem_singleton.mp hy]
      exact ⟨⟨(sortI_perm xs).nodup_iff.mpr lo.nd, fun x hx => lo.bd x (mem_sort.mp hx)⟩, rise_of (sort_lt lo.nd)⟩
  rintro ρ M' ⟨⟨x4, x6, rfl⟩, ls, k', ll, lb, kn', rfl⟩
  rw [List.length_range] at ll kn'
  refine ⟨[some (.ref a), some (.int sh), some (.int mn), some (.ref p), none, some (.ref q), none, none], by simp [Le], ?_⟩
  refine .one <| .ret <| .drop q <| .drop p <| .disp <| .cons <| .str <| .var 1 rfl <| .cons <| .str <| .callTy c.n_tuple rfl <| .cons <| .var 3 rfl <| .nil <| VC.tupleM (by rw [dk_else pa pl, mset_ne (Ne.symm qp), mset_same]) <| .cons <| .str <| .callTy c.n_tuple rfl <| .cons <| .var 5 rfl <| .nil <| VC.tupleM (by rw [dk_else qa ql, mset_same]) <| .nil ⟨wO ⟨sh, es, ls⟩, rfl, by show 3 ≤ 15; decide, ?_⟩
  rw [w_merge, dk_mdel pa pl, dk_mdel qa ql, mdel_mset_ne qp, mdel_mset hp, mdel_mset hq]
  refine h ⟨sh, es, ls⟩ k' ⟨⟨s1, by show sh ≤ 99; omega, ?_, by show es.length ≤ 100; omega, eb, ?_, by show ls.length ≤ 26; omega, fun y hy => ?_⟩, s4, by show es.length ≤ 9; omega, by show ls.length ≤ 4; omega⟩ (by show es.length ≤ 7; omega) (kn'.mono (by omega))
  · show es ≠ []
    intro e; rw [e] at el; simp at el; omega
  · show ls ≠ []
    intro e; rw [e] at ll; simp at ll; omega
  · obtain ⟨lo, hr⟩ := lb y hy
    exact ⟨Nat.le_trans (lo.len s4) (by omega), lo.bd, hr⟩
end
end K81
end
section
set_option maxRecDepth 100000
/-! TRp: repr of data that is not too long. -/
namespace TL
open PySem PySem.Spec PyProof.Rows L2
/-- data of at most n signs and bits, at most p deep -/
structure RepOk (n p : Nat) (d : D) : Prop where
  r : isR d = true
  s : (rpy d).leavesShort 600 = true
  w : (rpy d).weight ≤ n
  p : (rpy d).depth ≤ p
theorem RepOk.mono {n m p q : Nat} {d : D} (h : RepOk n p d) (l : n ≤ m) (k : p ≤ q) : RepOk m q d := ⟨h.r, h.s, Nat.le_trans h.w l, Nat.le_trans h.p k⟩
theorem RepOk.len {n p : Nat} {d : D} (h : RepOk n p d) (hn : n ≤ 20000) : (shN d).length ≤ sizeLine := by
  have h1 := PyData.shown_le 600 (by decide) (rpy d) h.s
  have h2 := h.w
  have h3 : (shN d).length = (rpy d).shown.length := by simp [shN, Str.length]
  have hs := sizeLine_eq
  have : (600 + 2) * (rpy d).weight ≤ 602 * 20000 := Nat.mul_le_mul (Nat.le_refl _) (by omega)
  omega
theorem VC.reprO {X : Cx} {M : Mp} {Q : DQ} {d : D} {k n p : Nat} (lo : Lo X k) (hs : ∃ o, X.base.get? sysModules = some o) (o : RepOk n p d) (hn : n ≤ 20000) (hp : p ≤ 60) (h : Q (.str (shN d)) M) : VC X (.builtin "repr") [d] M Q :=
  .repr lo hs o.r (o.len hn) (Nat.le_trans o.p hp) h
theorem RepOk.str {x : List Nat} (h : ∀ c ∈ x, c < 16 ^ 8) : RepOk x.length 0 (.str x) :=
  ⟨by simp [isR], by simp only [rpy, PyData.leavesShort, List.all_toArray, List.all_eq_true, decide_eq_true_eq]; simpa using h, by simp [rpy, PyData.weight], by simp [rpy, PyData.depth]⟩
theorem RepOk.bl (b : Bool) : RepOk 0 0 (.bl b) := ⟨by simp [isR], by simp [rpy, PyData.leavesShort], by simp [rpy, PyData.weight], by simp [rpy, PyData.depth]⟩
theorem RepOk.non : RepOk 0 0 .non := ⟨by simp [isR], by simp [rpy, PyData.leavesShort], by simp [rpy, PyData.weight], by simp [rpy, PyData.depth]⟩
theorem RepOk.all {n p : Nat} : ∀ {ds : List D}, (∀ d ∈ ds, RepOk n p d) → areR ds = true ∧ PyData.leavesShortAll 600 (rpys ds) = true ∧ PyData.weightAll (rpys ds) ≤ ds.length * (n + 1) ∧ PyData.depthAll (rpys ds) ≤ p
  | [], _ => by simp [areR, rpys, PyData.leavesShortAll, PyData.weightAll, PyData.depthAll]
  | d :: ds, h => by
    obtain ⟨a1, a2, a3, a4⟩ := RepOk.all fun x hx => h x (List.mem_cons_of_mem d hx)
    have hd := h d (List.mem_cons_self ..)
    have h3 := hd.w
    have h4 := hd.p
    refine ⟨by simp [areR, hd.r, a1], by simp [rpys, PyData.leavesShortAll, hd.s, a2], ?_, ?_⟩
    · simp only [rpys, PyData.weightAll, List.length_cons, Nat.add_mul, Nat.one_mul]; omega
    · simp only [rpys, PyData.depthAll]; omega
theorem RepOk.lst {n p : Nat} {ds : List D} (h : ∀ d ∈ ds, RepOk n p d) : RepOk (ds.length * (n + 1)) (p + 1) (.lst ds) := by
  obtain ⟨a1, a2, a3, a4⟩ := RepOk.all h
  exact ⟨by simpa [isR] using a1, by simpa [rpy, PyData.leavesShort] using a2, by simpa [rpy, PyData.weight] using a3, by simp only [rpy, PyData.depth]; omega⟩
theorem RepOk.tup {n p : Nat} {ds : List D} (h : ∀ d ∈ ds, RepOk n p d) : RepOk (ds.length * (n + 1)) (p + 1) (.tup ds) := by
  obtain ⟨a1, a2, a3, a4⟩ := RepOk.all h
  exact ⟨by simpa [isR] using a1, by simpa [rpy, PyData.leavesShort] using a2, by simpa [rpy, PyData.weight] using a3, by simp only [rpy, PyData.depth]; omega⟩
section
variable {X : Cx} {M : Mp} {ρ : En} {Q : DQ} {pos : Pos}
/-- -e -/
theorem WE.neg {a : Expr} (h : WE X a ρ M fun d M1 => ∃ i : Int, d = .int i ∧ Q (.int (-i)) M1) : WE X (.UnaryOp .USub a pos) ρ M Q :=
  .pe (pe_un un_neg lTE_ok) fun σ H F S => ⟨F, M, ρ, _, S, h, fun v H1 ⟨F1, M1, d, t, rp, i, e, q⟩ => by
    subst e
    cases rp
    exact ⟨i, rfl, F1, M1, _, t, .int _, q⟩⟩
end
section
variable {α : Type}
theorem cut_take (xs : List α) (n : Nat) : TL.cutD xs none (some (n : Int)) = xs.take n := by
  unfold TL.cutD
  rw [HT.sIx_none, HT.sIx_nat, List.drop_zero, Nat.sub_zero]
  by_cases h : n ≤ xs.length
  · rw [Nat.min_eq_left h]
  · rw [Nat.min_eq_right (by omega), List.take_of_length_le (Nat.le_refl _), List.take_of_length_le (by omega)]
theorem cut_drop (xs : List α) (n : Nat) : TL.cutD xs (some (n : Int)) none = xs.drop n := by
  unfold TL.cutD
  rw [HT.sIx_none, HT.sIx_nat]
  by_cases h : n ≤ xs.length
  · rw [Nat.min_eq_left h, List.take_of_length_le (by simp)]
  · rw [Nat.min_eq_right (by omega), List.drop_of_length_le (Nat.le_refl _), List.drop_of_length_le (by omega), List.take_nil]
theorem cut_last (xs : List α) : TL.cutD xs none (some (-1)) = xs.dropLast := by
  unfold TL.cutD
  rw [HT.sIx_none, List.drop_zero, Nat.sub_zero, List.dropLast_eq_take]
  congr 1
  have : HT.sIx xs.length xs.length (some (-1)) = ((-1 : Int) + (xs.length : Int)).toNat := by
    unfold HT.sIx
    simp
  rw [this]
  omega
end
end TL
end
section
set_option maxRecDepth 100000
set_option maxHeartbeats 0
/-! K81N: the law's small defs. -/
namespace K81
open PySem PySem.Spec PyProof.Rows L2 TL
open He (ga ma fAd)
section
variable {w : World} {K : PySem.W.Frag} {mg : Str → Option Value} {base : Heap} {M : Mp} {Q : DQ}
theorem t_law_code (c : E81 w K mg base) {v : LW} (ok : v.Ok) {kvs : List (Key × D)} (k1 : lookK kvs (sk "shafts") = some (.int v.sh)) (k2 : lookK kvs (sk "ends") = some (tupI v.ends)) (k3 : lookK kvs (sk "lifts") = some (.tup (v.lifts.map tupI))) (h : Q (loomD K v) M) :
    TFn P81 w K mg base 6 (ga K "_law_code") (fdOf K ("_law_code", none)) ["_law_w"] [.dic kvs] M Q := by
  refine TFn.of c.f__law_code s__law_code rfl fun cdv A outer s H F hr => ?_
  have hu := hr.room.units
  have hu1 : (A.deeper (envOfC "_law_code" (defScope (top 52)) s.heap.objs.size (ga K "_law_code") cdv)).units + 1 < cLine := by omega
  refine .one <| .ret <| WE.make c.mk_Loom (k := 4) hr c.g_Loom c.b_Loom_init <| .cons <| .ix <| .var 0 rfl <| .str <| VI.get hu1 (sk_str _) k1 <| .cons <| .ix <| .var 0 rfl <| .str <| VI.get hu1 (sk_str _) k2 <| .cons <| .ix <| .var 0 rfl <| .str <| VI.get hu1 (sk_str _) k3 <| .nil fun z hz => ?_
  exact t_Loom_init c ok hz h
theorem alpha_len : (lit "abcdefghijklmnopqrstuvwxyz").length = 26 := by decide +kernel
theorem t_law_text (c : E81 w K mg base) {v : LW} (ok : v.Ok) {a l : Addr} {k : Dk} (hn : l ≠ a) {n : Nat} (kn : DkN k n) {m : Nat} (m0 : 0 < m) (m1 : m ≤ 100) (hd : n < 900000)
    (h : ∀ t k', t ≠ [] → t.length ≤ m → okTr v t = true → DkN k' (n + m + 1) → Q (.str t) (dkM a l k' M)) :
    TFn P81 w K mg base 4 (ga K "_law_text") (fdOf K ("_law_text", none)) ["_law_deck_here", "_law_w", "_law_most_now"] [.ref a, wD v, .int m] (dkM a l k M) Q := by
  refine TFn.of c.f__law_text s__law_text rfl fun cdv A outer s H F hr => ?_
  have hu := hr.room.units
  have hs := sizeLine_eq
  have hu1 : (A.deeper (envOfC "_law_text" (defScope (top 53)) s.heap.objs.size (ga K "_law_text") cdv)).units + 1 < cLine := by omega
  have l1 := ok.l1
  have l0 : 0 < v.lifts.length := List.length_pos_iff.mpr ok.l0
  refine .cons <| .setN 3 s__law_text.nd <| .slice <| .str <| .none <| .some <| .callB c.n_len rfl <| .cons <| .ix <| .var 1 rfl <| .str <| VI.get hu1 (sk_str _) w_look3 <| .nil <| VC.len (n := v.lifts.length) (by simp [lenD]) ⟨_, rfl, VS.str (by rw [alpha_len]; omega) ?_⟩
  rw [cut_take]
  have tl : (alpha.take v.lifts.length).length = v.lifts.length := by
    rw [List.length_take, alpha_len]; omega
  refine .one <| .ret <| .call hr c.g__law_word c.f__law_word.kp c.b__law_word <| .cons <| .var 0 rfl <| .cons <| .var 3 rfl <| .cons <| .bin <| .int <| .call (hr.mono (j := 1) (by omega)) c.g__law_draw c.f__law_draw.kp c.b__law_draw <| .cons <| .var 0 rfl <| .cons <| .var 2 rfl <| .nil <| t_draw c hn (by omega) (by omega) kn (by omega) fun x k2 x0 x1 kn2 => VO.add <| .nil ?_
  obtain ⟨y, rfl⟩ := Int.eq_ofNat_of_zero_le x0
  rw [show (1 : Int) + (y : Int) = ((1 + y : Nat) : Int) by omega]
  refine t_word c hn kn2 (x := alpha.take v.lifts.length) (fun e => ?_) (by rw [tl]; omega) (m := 1 + y) (by omega) (by omega) fun t k3 ht hx kn3 => h t k3 ?_ (by omega) ?_ (kn3.mono (by omega))
  · have := congrArg List.length e
    rw [tl, List.length_nil] at this; omega
  · intro e; rw [e] at ht; simp at ht; omega
  · exact List.all_eq_true.mpr fun y hy => decide_eq_true (hx y hy)
theorem t_law_woven (c : E81 w K mg base) {v : LW} (ok : v.Ok) {t : List Nat} (hl : t.length ≤ 1000) (ht : okTr v t = true) (h : Q (.tup ((rowsOf v t).map D.str)) M) :
    TFn P81 w K mg base 1 (ga K "_law_woven") (fdOf K ("_law_woven", none)) ["_law_w", "_law_text_now"] [wD v, .str t] M Q := by
  refine TFn.of c.f__law_woven s__law_woven rfl fun cdv A outer s H F hr => ?_
  have hu := hr.room.units
  have hs := sizeLine_eq
  have hu1 : (A.deeper (envOfC "_law_woven" (defScope (top 49)) s.heap.objs.size (ga K "_law_woven") cdv)).units + 1 < cLine := by omega
  have l1 := ok.l1
  have e1 := ok.e1
  refine .cons <| .setN 2 s__law_woven.nd <| .listM <| .nil ⟨by show 0 ≤ sizeLine; decide, fun p hp => ?_⟩
  refine .cons <| .for (L2.passes_of rfl) rfl ?_
  refine WI.str <| .var 1 rfl ⟨t, rfl, ?_⟩
  refine ForT.map (fun x => D.str [x]) (fun pre ρ M' => (∃ x3 x4, ρ = [some (wD v), some (.str t), some (.ref p), x3, x4, none]) ∧ M' = mset M p (.lst ((pre.map (rowOf v)).map D.str))) ?_ ?_ ⟨⟨none, none, rfl⟩, rfl⟩
  · rintro pre x post ρ M' e ⟨⟨x3, x4, rfl⟩, rfl⟩
    have hx2 : x ∈ alpha.take v.lifts.length := of_decide_eq_true (List.all_eq_true.mp ht x (by rw [e]; simp))
    have hpl : pre.length < t.length := by rw [e]; simp
    obtain ⟨i, hi, rfl⟩ := mem_alpha ok.l1 hx2
    have eL : v.lifts.getD (97 + i - 97) [] = v.lifts[i] := by rw [Nat.add_sub_cancel_left, List.getD_eq_getElem?_getD, List.getElem?_eq_getElem hi]; rfl
    refine .nameN 3 s__law_woven.nd ?_
    refine .cons <| .setN 4 s__law_woven.nd <| .ix <| .ix <| .var 0 rfl <| .str <| VI.get hu1 (sk_str _) w_look3 <| .bm PySem.F.plainAttrs_str PySem.F.slot_str_index PySem.F.type_str_index <| .str ⟨.str, .cons <| .var 3 rfl <| .nil <| VM.sindex (occ_alpha ⟨i, by omega⟩) <| VI.tup (d := tupI v.lifts[i]) (by rw [TL.atI_nat, List.getElem?_map, List.getElem?_eq_getElem hi]; rfl) ?_⟩
    refine .one <| .expr <| .bm PySem.F.plainAttrs_list PySem.F.slot_list_append PySem.F.type_list_append <| .var 2 rfl ⟨.lstM mset_same, .cons <| .bm PySem.F.plainAttrs_str PySem.F.slot_str_join PySem.F.type_str_join <| .str ⟨.str, .cons ?_⟩⟩
    refine WE.lc1 5 [("_law_shaft", 5)] rfl s__law_woven.nd (show BlkOk n__law_woven (defScope (top 49)) _ _ from ⟨rfl, by decide +kernel, by decide +kernel, by decide +kernel, by decide +kernel⟩) ?_
    refine WI.tup <| .ix <| .var 0 rfl <| .str <| VI.get hu1 (sk_str _) w_look2 ⟨_, rfl, ?_⟩
    refine CompT.step D.int (fun pr acc M' => acc = ((pr.map fun e => [if e ∈ v.lifts[i] then 120 else 45]).map D.str) ∧ M' = mset M p (.lst ((pre.map (rowOf v)).map D.str))) ?_ (by omega) ?_ ⟨rfl, rfl⟩
    · rintro pr e' post acc M' _ ⟨rfl, rfl⟩
      refine ⟨_, rfl, fun s H C cl fp => .ife <| .cmp <| .var 5 rfl <| .var 4 rfl <| .inT rfl (flat_ints _) ⟨_, rfl, ?_, ?_⟩⟩
      · intro z
        rw [any_ints] at z
        exact .str ⟨by rw [List.map_append, List.map_append]; simp [of_decide_eq_true z, lit], rfl⟩
      · intro z
        rw [any_ints] at z
        exact .str ⟨by rw [List.map_append, List.map_append]; simp [of_decide_eq_false z, lit], rfl⟩
    rintro acc M' ⟨rfl, rfl⟩
    have e2 : ((v.ends.map fun e => [if e ∈ v.lifts[i] then 120 else 45]).flatten) = rowOf v (97 + i) := by
      unfold rowOf pickOf
      rw [eL, ← flat_signs (v.ends.map fun e => if e ∈ v.lifts[i] then 120 else 45), List.map_map]
      rfl
    refine .nil <| VM.joinL ?_ <| .nil <| VM.append mset_same (by simp; omega) ?_
    · rw [List.map_map]
      have : ∀ l : List Int, (l.map (List.length ∘ fun e => [if e ∈ v.lifts[i] then 120 else 45])).sum = l.length := by
        intro l
        induction l with
        | nil => rfl
        | cons a l ih => rw [List.map_cons, List.sum_cons, ih]; simp; omega
      rw [this]; omega
    · rw [e2, mset_mset]
      exact ⟨⟨_, _, rfl⟩, by rw [List.map_append, List.map_append]; rfl⟩
  · rintro ρ M' ⟨⟨x3, x4, rfl⟩, rfl⟩
    refine ⟨_, Le.refl _, .one <| .ret <| .drop p <| .callTy c.n_tuple rfl <| .cons <| .var 2 rfl <| .nil <| VC.tupleM mset_same ?_⟩
    rw [mdel_mset hp]
    exact h
theorem t_law_deck (c : E81 w K mg base) {ns : List Int} (hl : ns.length ≤ 63) (h : ∀ a l k, l ≠ a → M a = none → M l = none → DkN k 0 → Q (.ref a) (dkM a l k M)) :
    TFn P81 w K mg base 1 (ga K "_law_deck") (fdOf K ("_law_deck", none)) ["_law_script"] [.lst (ns.map D.int)] M Q := by
  refine TFn.of c.f__law_deck s__law_deck rfl fun cdv A outer s H F hr => ?_
  have hs := sizeLine_eq
  refine .cons <| .par 1 2 rfl s__law_deck.nd <| .cons <| .callTy c.n_list rfl <| .cons <| .slice <| .var 0 rfl <| .none <| .some <| .int ⟨_, rfl, VS.lst <| .nil <| VC.listL ?_⟩
  rw [show TL.cutD (ns.map D.int) none (some 63) = ns.map D.int by rw [show (63 : Int) = ((63 : Nat) : Int) from rfl, cut_take, List.take_of_length_le (by rw [List.length_map]; exact hl)]]
  refine .cons <| .bin <| .int <| .bin <| .callB c.n_sum rfl <| .cons <| .slice <| .var 0 rfl <| .none <| .some <| .int ⟨_, rfl, VS.lst <| .nil ?_⟩
  rw [show TL.cutD (ns.map D.int) none (some 1) = (ns.take 1).map D.int by rw [show (1 : Int) = ((1 : Nat) : Int) from rfl, cut_take, List.map_take]]
  refine VC.sum rfl <| .int <| VO.modG (by decide) fun r r0 r1 => VO.add <| .nil ⟨_, _, rfl, ?_⟩
  refine .cons <| .for (L2.passes_of rfl) rfl ?_
  refine WI.list <| .var 1 rfl ⟨_, rfl, ?_⟩
  refine ForT.map D.int (fun pre ρ M' => (∃ (mx : Int) (x3 : Option D), ρ = [some (.lst (ns.map D.int)), some (.lst (ns.map D.int)), some (.int mx), x3]) ∧ M' = M) ?_ ?_ ⟨⟨_, none, rfl⟩, rfl⟩
  · rintro pre x post ρ M' e ⟨⟨mx, x3, rfl⟩, rfl⟩
    refine .nameN 3 s__law_deck.nd ?_
    exact .one <| .setN 2 s__law_deck.nd <| .bin <| .callTy c.n_int rfl <| .cons <| .bin <| .bin <| .bin <| .var 2 rfl <| .int <| VO.mulR (by decide) (by decide) <| .bin <| .callTy c.n_int rfl <| .cons <| .var 3 rfl <| .nil <| VC.int1 <| .int <| VO.modG (by decide) fun r1 _ _ => VO.add <| .int <| VO.add <| .nil <| VC.int1 <| .int <| VO.modG (by decide) fun r2 _ _ => ⟨⟨r2, _, rfl⟩, rfl⟩
  · rintro ρ M' ⟨⟨mx, x3, rfl⟩, rfl⟩
    refine ⟨_, Le.refl _, .one <| .ret <| .dispM <| .cons <| .str <| WE.revM <| .var 1 rfl ⟨_, rfl, fun l hl' => ?_⟩⟩
    refine .cons <| .str <| .var 2 rfl <| .cons <| .str <| .int <| .nil ⟨dkO l ⟨ns.reverse, mx, 0⟩, rfl, by show 3 ≤ 15; decide, fun a ha ha2 => ?_⟩
    have la : l ≠ a := fun e => by rw [e, mset_same] at ha2; cases ha2
    have := h a l ⟨ns.reverse, mx, 0⟩ la ha hl' ⟨by simpa using hl, Nat.le_refl _⟩
    rw [merge_nodup (kds := dkO l ⟨ns.reverse, mx, 0⟩) (show ([sk "cells", sk "mixed", sk "draws"] : List Key).Nodup by decide +kernel), ← List.map_reverse]
    exact this
end
end K81
end
section
set_option maxRecDepth 100000
set_option maxHeartbeats 0
/-! K81O: the law's reduced loom. -/
namespace K81
open PySem PySem.Spec PyProof.Rows L2 TL
open He (ga ma fAd)
theorem any_eqD {α : Type} [DecidableEq α] {f : α → D} (hf : ∀ a b, TL.eqD (f a) (f b) = decide (a = b)) (xs : List α) (x : α) : ((xs.map f).any fun z => TL.eqD z (f x)) = decide (x ∈ xs) := by
  rw [List.any_map]
  by_cases h : x ∈ xs
  · rw [decide_eq_true h, List.any_eq_true]
    exact ⟨x, h, by show TL.eqD (f x) (f x) = true; rw [hf]; simp⟩
  · rw [decide_eq_false h, List.any_eq_false]
    intro y hy
    have : y ≠ x := fun e => h (e ▸ hy)
    show ¬ TL.eqD (f y) (f x) = true
    rw [hf]; simp [this]
theorem any_t {α : Type} [DecidableEq α] {f : α → D} (hf : ∀ a b, TL.eqD (f a) (f b) = decide (a = b)) {xs : List α} {x : α} (h : ((xs.map f).any fun z => TL.eqD z (f x)) = true) : x ∈ xs := by
  rw [any_eqD hf] at h; exact of_decide_eq_true h
theorem any_f {α : Type} [DecidableEq α] {f : α → D} (hf : ∀ a b, TL.eqD (f a) (f b) = decide (a = b)) {xs : List α} {x : α} (h : ((xs.map f).any fun z => TL.eqD z (f x)) = false) : ¬ x ∈ xs := by
  rw [any_eqD hf] at h; exact of_decide_eq_false h
theorem find_eqD {α : Type} [DecidableEq α] {f : α → D} (hf : ∀ a b, TL.eqD (f a) (f b) = decide (a = b)) {xs : List α} {x : α} (h : x ∈ xs) : (xs.map f).findIdx? (fun z => TL.eqD z (f x)) = some (ixOf xs x) := by
  rw [List.findIdx?_eq_some_iff_getElem]
  have h1 := ixOf_lt h
  have h2 := ixOf_get h
  rw [List.getElem?_eq_getElem h1] at h2
  refine ⟨by rw [List.length_map]; exact h1, ?_, fun j hj => ?_⟩
  · rw [List.getElem_map, hf, Option.some.inj h2]; simp
  · rw [List.getElem_map, hf]
    have := ixOf_first hj
    rw [List.getElem?_eq_getElem (by omega)] at this
    simpa using fun e => this (by rw [e])
def LB (bs : List Bool) : D := .lst (bs.map D.bl)
def LI (ns : List Int) : D := .lst (ns.map D.int)
theorem eqD_LB (l m : List Bool) : TL.eqD (LB l) (LB m) = decide (l = m) := by
  show PyData.eqv (py (LB l)) (py (LB m)) = _
  simp only [LB, py, PyData.eqv]
  exact eqv_map D.bl (fun a b => by cases a <;> cases b <;> simp [TL.eqD, py, PyData.eqv]) l m
theorem eqD_LI (l m : List Int) : TL.eqD (LI l) (LI m) = decide (l = m) := by
  show PyData.eqv (py (LI l)) (py (LI m)) = _
  simp only [LI, py, PyData.eqv]
  exact eqv_map D.int (fun a b => by
    simp only [TL.eqD, py, PyData.eqv]
    by_cases h : a = b <;> simp [h]) l m
theorem isS_LB (bs : List Bool) : isS (LB bs) = true := by
  show areS (bs.map D.bl) = true
  exact areS_of fun d hd => by
    obtain ⟨b, _, rfl⟩ := List.mem_map.mp hd
    simp [isS]
theorem dep_LB (bs : List Bool) : dep (LB bs) = 1 := by
  show deps (bs.map D.bl) + 1 = 1
  have : deps (bs.map D.bl) ≤ 0 := deps_le fun d hd => by
    obtain ⟨b, _, rfl⟩ := List.mem_map.mp hd
    exact Nat.le_refl 0
  omega
theorem isS_LI (bs : List Int) : isS (LI bs) = true := areS_ints bs
theorem dep_LI (bs : List Int) : dep (LI bs) = 1 := by
  show deps (bs.map D.int) + 1 = 1
  rw [deps_ints]
theorem shp_LB (bs : List Bool) : shp (LB bs) = true := shp_of (isS_LB bs) (by rw [dep_LB]; omega)
theorem shp_LI (bs : List Int) : shp (LI bs) = true := shp_of (isS_LI bs) (by rw [dep_LI]; omega)
theorem shp_list {α : Type} {f : α → D} (h1 : ∀ a, isS (f a) = true) (h2 : ∀ a, dep (f a) = 1) (l : List α) : shp (.lst (l.map f)) = true := by
  refine shp_of (areS_of fun d hd => ?_) ?_
  · obtain ⟨b, _, rfl⟩ := List.mem_map.mp hd
    exact h1 b
  · have : deps (l.map f) ≤ 1 := deps_le fun d hd => by
      obtain ⟨b, _, rfl⟩ := List.mem_map.mp hd
      rw [h2]; omega
    show deps (l.map f) + 1 ≤ 64
    omega
theorem ixOf_app {α : Type} [DecidableEq α] {x : α} : ∀ {u t : List α}, x ∈ u → ixOf (u ++ t) x = ixOf u x
  | y :: u, t, h => by
    rw [List.cons_append, ixOf_cons, ixOf_cons]
    split
    · rfl
    · rename_i hn
      rw [ixOf_app ((List.mem_cons.mp h).resolve_left fun z => hn z.symm)]
theorem ix_prefix {α β : Type} [DecidableEq β] (f : α → β) {pre post : List α} {x : α} : ixOf (uniq [] ((pre ++ [x]).map f)) (f x) = ixOf (uniq [] ((pre ++ x :: post).map f)) (f x) := by
  have e : (pre ++ x :: post).map f = (pre ++ [x]).map f ++ post.map f := by simp
  rw [e, uniq_app]
  obtain ⟨t, et⟩ := uniq_pre (post.map f) (uniq [] ((pre ++ [x]).map f))
  rw [et, ixOf_app (mem_u.mpr (by simp))]
/-! ### what the law finds -/
def usedL (v : LW) : List Int := sortI (uniq [] v.ends)
def keyL (v : LW) (l : List Int) : List Int := (usedL v).filter fun e => decide (e ∈ l)
def lawLift (v : LW) (key : List Int) : List Int := sortI (uniq [] ((v.ends.filter fun e => decide (e ∈ key)).map (kn v)))
theorem mem_used {v : LW} {e : Int} : e ∈ usedL v ↔ e ∈ v.ends := by unfold usedL; rw [mem_sort, mem_u]
theorem mem_key {v : LW} {l : List Int} {e : Int} : e ∈ keyL v l ↔ e ∈ v.ends ∧ e ∈ l := by unfold keyL; rw [List.mem_filter, mem_used]; simp
theorem sort_ext {l m : List Int} (hl : l.Nodup) (hm : m.Nodup) (h : ∀ x, x ∈ l ↔ x ∈ m) : sortI l = sortI m :=
  sorted_one (((sortI_perm l).trans ((List.perm_ext_iff_of_nodup hl hm).mpr h)).trans (sortI_perm m).symm) (sortI_le l) (sortI_le m)
theorem lawLift_eq (v : LW) (l : List Int) : lawLift v (keyL v l) = redLift v l := by
  unfold lawLift redLift
  refine sort_ext (nodup_u _) (nodup_u _) fun x => ?_
  rw [mem_u, mem_u]
  simp only [List.mem_map, List.mem_filter, decide_eq_true_eq, mem_key]
  constructor
  · rintro ⟨e, ⟨h1, h2, h3⟩, rfl⟩; exact ⟨e, ⟨h3, h2⟩, rfl⟩
  · rintro ⟨e, ⟨h1, h2⟩, rfl⟩; exact ⟨e, ⟨h2, h2, h1⟩, rfl⟩
theorem col_of_kn {v : LW} {e e' : Int} (h : e ∈ v.ends) (h' : e' ∈ v.ends) (hk : kn v e = kn v e') : col v e = col v e' := by
  have : knN v e = knN v e' := by exact_mod_cast hk
  exact ixOf_inj (mem_u.mpr (List.mem_map_of_mem h)) (mem_u.mpr (List.mem_map_of_mem h')) this
theorem lift_of_col {v : LW} {e e' : Int} (h : col v e = col v e') {l : List Int} (hl : l ∈ v.lifts) : e ∈ l ↔ e' ∈ l := by
  unfold col at h
  have := List.map_inj_left.mp h l hl
  simpa using this
theorem key_inj {v : LW} {l m : List Int} (hl : l ∈ v.lifts) (hm : m ∈ v.lifts) (h : redLift v l = redLift v m) : keyL v l = keyL v m := by
  unfold keyL
  refine List.filter_congr fun e he => ?_
  have hee := mem_used.mp he
  have one : ∀ {a b : List Int}, a ∈ v.lifts → b ∈ v.lifts → redLift v a = redLift v b → e ∈ a → e ∈ b := fun {a b} ha hb hab hea => by
    have h1 : kn v e ∈ redLift v a := redLift_mem.mpr ⟨e, hea, hee, rfl⟩
    rw [hab] at h1
    obtain ⟨e', he', hee', hk⟩ := redLift_mem.mp h1
    exact (lift_of_col (col_of_kn hee hee' hk) hb).mpr he'
  have : e ∈ l ↔ e ∈ m := ⟨one hl hm h, one hm hl h.symm⟩
  simp [this]
theorem keys_uniq (v : LW) : (uniq [] (v.lifts.map (keyL v))).map (lawLift v) = uniq [] (redLifts v) := by
  have e : redLifts v = (v.lifts.map (keyL v)).map (lawLift v) := by
    unfold redLifts
    rw [List.map_map]
    exact List.map_congr_left fun l _ => (lawLift_eq v l).symm
  rw [e, show ([] : List (List Int)) = ([] : List (List Int)).map (lawLift v) from rfl, uniq_map_on]
  · rfl
  · intro a b ha hb h
    obtain ⟨l, hl, rfl⟩ := List.mem_map.mp (ha.resolve_left (by simp))
    obtain ⟨m, hm, rfl⟩ := List.mem_map.mp (hb.resolve_left (by simp))
    rw [lawLift_eq, lawLift_eq] at h
    exact key_inj hl hm h
theorem ixOf_map {α β : Type} [DecidableEq α] [DecidableEq β] {f : α → β} {x : α} : ∀ {u : List α}, (∀ a ∈ u, f a = f x → a = x) → ixOf (u.map f) (f x) = ixOf u x
  | [], _ => rfl
  | y :: u, h => by
    rw [List.map_cons, ixOf_cons, ixOf_cons, ixOf_map fun a ha => h a (List.mem_cons_of_mem _ ha)]
    by_cases e : y = x
    · subst e; simp
    · have : ¬ f y = f x := fun z => e (h y (List.mem_cons_self ..) z)
      simp [e, this]
theorem led_eq (v : LW) : (v.lifts.map fun l => 97 + ixOf (uniq [] (v.lifts.map (keyL v))) (keyL v l)) = redL v := by
  unfold redL kindsOf redLifts
  rw [List.map_map, List.map_map]
  refine List.map_congr_left fun l hl => ?_
  show _ = 97 + (((ixOf (uniq [] (v.lifts.map (redLift v))) (redLift v l) : Nat) : Int)).toNat
  rw [Int.toNat_natCast]
  have := keys_uniq v
  unfold redLifts at this
  rw [← this, ← lawLift_eq, ixOf_map fun a ha h => ?_]
  obtain ⟨m, hm, rfl⟩ := List.mem_map.mp (mem_u.mp ha)
  rw [lawLift_eq, lawLift_eq] at h
  exact key_inj hm hl h
/-- the reduced loom's parts, as the law has them -/
def rO (v : LW) : List (Key × D) := [(sk "shafts", .int (redW v).sh), (sk "ends", tupI (redW v).ends), (sk "lifts", .tup ((redW v).lifts.map tupI)), (sk "led", .str (redL v))]
def rD (v : LW) : D := .dic (rO v)
theorem r_look1 {v : LW} : lookK (rO v) (sk "shafts") = some (.int (redW v).sh) := by unfold rO; rw [lookK_cons, if_pos rfl]
theorem r_look2 {v : LW} : lookK (rO v) (sk "ends") = some (tupI (redW v).ends) := by
  have h : ¬ lit "shafts" = lit "ends" := by decide +kernel
  unfold rO; simp [lookK_cons, h]
theorem r_look3 {v : LW} : lookK (rO v) (sk "lifts") = some (.tup ((redW v).lifts.map tupI)) := by
  have h : ¬ lit "shafts" = lit "lifts" := by decide +kernel
  have h2 : ¬ lit "ends" = lit "lifts" := by decide +kernel
  unfold rO; simp [lookK_cons, h, h2]
theorem r_look4 {v : LW} : lookK (rO v) (sk "led") = some (.str (redL v)) := by
  have h : ¬ lit "shafts" = lit "led" := by decide +kernel
  have h2 : ¬ lit "ends" = lit "led" := by decide +kernel
  have h3 : ¬ lit "lifts" = lit "led" := by decide +kernel
  unfold rO; simp [lookK_cons, h, h2, h3]
theorem r_merge {v : LW} : mergeG [] (rO v) = rO v := merge_nodup (show ([sk "shafts", sk "ends", sk "lifts", sk "led"] : List Key).Nodup by decide +kernel)
end K81
end
section
set_option maxRecDepth 100000
set_option maxHeartbeats 0
/-! K81P: the law's reduced loom, walked. -/
namespace K81
open PySem PySem.Spec PyProof.Rows L2 TL
open He (ga ma fAd)
section
variable {w : World} {K : PySem.W.Frag} {mg : Str → Option Value} {base : Heap} {M : Mp} {Q : DQ}
theorem t_law_reduced (c : E81 w K mg base) {v : LW} (ok : v.Ok) (h : Q (rD v) M) :
    TFn P81 w K mg base 1 (ga K "_law_reduced") (fdOf K ("_law_reduced", none)) ["_law_w"] [wD v] M Q := by
  refine TFn.of c.f__law_reduced s__law_reduced rfl fun cdv A outer s H F hr => ?_
  have hu := hr.room.units
  have hs := sizeLine_eq
  have hu1 : (A.deeper (envOfC "_law_reduced" (defScope (top 51)) s.heap.objs.size (ga K "_law_reduced") cdv)).units + 1 < cLine := by omega
  have hu65 : (A.deeper (envOfC "_law_reduced" (defScope (top 51)) s.heap.objs.size (ga K "_law_reduced") cdv)).units + 65 < cLine := by have := hr.room.un; omega
  have l1 := ok.l1
  have e1 := ok.e1
  have ul := uniq_len v.ends []
  simp at ul
  have usl : (usedL v).length ≤ 100 := by
    unfold usedL
    rw [(sortI_perm _).length_eq]; omega
  refine .cons <| .par3 1 2 3 rfl s__law_reduced.nd <| .cons <| .sortedSetI rfl c.n_sorted c.n_set <| .ix <| .var 0 rfl <| .str <| VI.get hu1 (sk_str _) w_look2 ⟨v.ends, .tupI _, by show _ < 4096; omega, ?_⟩
  refine .cons <| .list <| .nil ⟨by show 0 ≤ sizeLine; decide, .cons <| .listM <| .nil ⟨by show 0 ≤ sizeLine; decide, fun p hp => .nil ⟨_, _, _, rfl, ?_⟩⟩⟩
  -- the ends
  refine .cons <| .for (L2.passes_of rfl) rfl ?_
  refine WI.tup <| .ix <| .var 0 rfl <| .str <| VI.get hu1 (sk_str _) w_look2 ⟨_, rfl, ?_⟩
  refine ForT.map D.int (fun pre ρ M' => (∃ x4 x5, ρ = [some (wD v), some (.lst ((usedL v).map D.int)), some (.lst ((uniq [] (pre.map (col v))).map LB)), some (.ref p), x4, x5, none, none, none, none, none, none]) ∧ M' = mset M p (.lst ((pre.map (kn v)).map D.int))) ?_ ?_ ⟨⟨none, none, rfl⟩, rfl⟩
  · rintro pre e post ρ M' el ⟨⟨x4, x5, rfl⟩, rfl⟩
    have hpl : pre.length < v.ends.length := by rw [el]; simp
    have hul := uniq_len (pre.map (col v)) []
    simp at hul
    refine .nameN 4 s__law_reduced.nd ?_
    refine .cons <| .setN 5 s__law_reduced.nd <| WE.lc1 6 [("_law_lift", 6)] rfl s__law_reduced.nd (show BlkOk n__law_reduced (defScope (top 51)) _ _ from ⟨rfl, by decide +kernel, by decide +kernel, by decide +kernel, by decide +kernel⟩) ?_
    refine WI.tup <| .ix <| .var 0 rfl <| .str <| VI.get hu1 (sk_str _) w_look3 ⟨_, rfl, ?_⟩
    refine CompT.step tupI (fun pr acc M2 => acc = (pr.map fun l => decide (e ∈ l)).map D.bl ∧ M2 = mset M p (.lst ((pre.map (kn v)).map D.int))) ?_ (by omega) ?_ ⟨rfl, rfl⟩
    · rintro pr l post' acc M2 _ ⟨rfl, rfl⟩
      refine ⟨_, rfl, fun s H C cl fp => .cmp <| .var 4 rfl <| .var 6 rfl <| .inT rfl (flat_ints _) ⟨?_, rfl⟩⟩
      rw [any_ints, List.map_append, List.map_append]; rfl
    rintro acc M2 ⟨rfl, rfl⟩
    show WSs _ _ [some (wD v), some (.lst ((usedL v).map D.int)), some (.lst ((uniq [] (pre.map (col v))).map LB)), some (.ref p), some (.int e), some (LB (col v e)), none, none, none, none, none, none] _ _
    have us := uniq_snoc (pre.map (col v)) (col v e)
    have mem : col v e ∈ uniq [] ((pre ++ [e]).map (col v)) := mem_u.mpr (by simp)
    have ixe : ixOf (uniq [] ((pre ++ [e]).map (col v))) (col v e) = knN v e := by
      unfold knN
      rw [ix_prefix (post := post), ← el]
    have mapc : (pre ++ [e]).map (col v) = pre.map (col v) ++ [col v e] := by simp
    rw [← mapc] at us
    refine .cut (fun ρ' M' => ρ' = [some (wD v), some (.lst ((usedL v).map D.int)), some (.lst ((uniq [] ((pre ++ [e]).map (col v))).map LB)), some (.ref p), some (.int e), some (LB (col v e)), none, none, none, none, none, none] ∧ M' = mset M p (.lst ((pre.map (kn v)).map D.int))) ?_ ?_
    · refine .setN 2 s__law_reduced.nd <| .ife <| .cmp <| .var 5 rfl <| .var 2 rfl <| VO.inD hu65 (shp_LB _) (shp_list isS_LB dep_LB _) ⟨_, rfl, fun z => ?_, fun z => ?_⟩
      · rw [us, if_pos (any_t eqD_LB z)]
        exact .var 2 rfl ⟨rfl, rfl⟩
      · rw [us, if_neg (any_f eqD_LB z)]
        exact .bin <| .var 2 rfl <| .list <| .cons <| .var 5 rfl <| .nil ⟨by show 1 ≤ sizeLine; decide, VO.catL (by simp; omega) ⟨by rw [List.map_append]; rfl, rfl⟩⟩
    rintro ρ' M' ⟨rfl, rfl⟩
    refine .one <| .expr <| .bm PySem.F.plainAttrs_list PySem.F.slot_list_append PySem.F.type_list_append <| .var 3 rfl ⟨.lstM mset_same, .cons <| .bm PySem.F.plainAttrs_list PySem.F.slot_list_index PySem.F.type_list_index <| .var 2 rfl ⟨.lst, .cons <| .var 5 rfl <| .nil <| VM.index hu65 (shp_list isS_LB dep_LB _) (shp_LB _) (find_eqD eqD_LB mem) <| .nil <| VM.append mset_same (by simp; omega) ?_⟩⟩
    rw [ixe, mset_mset]
    exact ⟨⟨_, _, rfl⟩, by rw [List.map_append, List.map_append]; rfl⟩
  rintro ρ M' ⟨⟨x4, x5, rfl⟩, rfl⟩
  refine ⟨[some (wD v), some (.lst ((usedL v).map D.int)), some (.lst ((uniq [] (v.ends.map (col v))).map LB)), some (.ref p), none, none, none, none, none, none, none, none], by simp [Le], ?_⟩
  refine .freeze 3 rfl mset_same ?_
  rw [mdel_mset hp]
  -- the kinds
  refine .cons <| .par3 7 8 9 rfl s__law_reduced.nd <| .cons <| .list <| .nil ⟨by show 0 ≤ sizeLine; decide, .cons <| .str <| .cons <| .str <| .nil ⟨_, _, _, rfl, ?_⟩⟩
  refine .cons <| .for (L2.passes_of rfl) rfl ?_
  refine WI.tup <| .ix <| .var 0 rfl <| .str <| VI.get hu1 (sk_str _) w_look3 ⟨_, rfl, ?_⟩
  refine ForT.map tupI (fun pre ρ M' => (∃ x5 x6, ρ = [some (wD v), some (.lst ((usedL v).map D.int)), some (.lst ((uniq [] (v.ends.map (col v))).map LB)), some (.lst ((v.ends.map (kn v)).map D.int)), none, x5, x6, some (.lst ((uniq [] (pre.map (keyL v))).map LI)), some (.str (pre.map fun l => 97 + ixOf (uniq [] (v.lifts.map (keyL v))) (keyL v l))), some (.str (lit "abcdefghijklmnopqrstuvwxyz")), none, none]) ∧ M' = M) ?_ ?_ ⟨⟨none, none, rfl⟩, rfl⟩
  · rintro pre l post ρ M' el ⟨⟨x5, x6, rfl⟩, rfl⟩
    have hpl : pre.length < v.lifts.length := by rw [el]; simp
    have hul := uniq_len (pre.map (keyL v)) []
    simp at hul
    refine .nameN 6 s__law_reduced.nd ?_
    refine .cons <| .setN 5 s__law_reduced.nd <| WE.lc1 4 [("_law_shaft", 4)] rfl s__law_reduced.nd (show BlkOk n__law_reduced (defScope (top 51)) _ _ from ⟨rfl, by decide +kernel, by decide +kernel, by decide +kernel, by decide +kernel⟩) ?_
    refine WI.list <| .var 1 rfl ⟨_, rfl, ?_⟩
    refine CompT.stepIf D.int (fun pr acc M2 => acc = (pr.filter fun e => decide (e ∈ l)).map D.int ∧ M2 = M') ?_ (by omega) ?_ ⟨rfl, rfl⟩
    · rintro pr x post' acc M2 _ ⟨rfl, rfl⟩
      refine ⟨_, rfl, fun b M1 => b = decide (x ∈ l) ∧ M1 = M2, fun s H C cl fp => .cmp <| .var 4 rfl <| .var 6 rfl <| .inT rfl (flat_ints _) ⟨_, rfl, by rw [any_ints], rfl⟩, ?_, ?_⟩
      · rintro M1 ⟨z, rfl⟩
        have := of_decide_eq_false z.symm
        exact ⟨by rw [List.filter_append]; simp [this], rfl⟩
      · rintro M1 ⟨z, rfl⟩
        have := of_decide_eq_true z.symm
        exact fun s H C cl fp => .var 4 rfl ⟨by rw [List.filter_append]; simp [this], rfl⟩
    rintro acc M2 ⟨rfl, rfl⟩
    have us := uniq_snoc (pre.map (keyL v)) (keyL v l)
    have mem : keyL v l ∈ uniq [] ((pre ++ [l]).map (keyL v)) := mem_u.mpr (by simp)
    have ixe : ixOf (uniq [] ((pre ++ [l]).map (keyL v))) (keyL v l) = ixOf (uniq [] (v.lifts.map (keyL v))) (keyL v l) := by
      rw [ix_prefix (post := post), ← el]
    have ilt : ixOf (uniq [] (v.lifts.map (keyL v))) (keyL v l) < 26 := by
      have h1 := ixOf_lt mem
      rw [ixe] at h1
      have h2 := uniq_len ((pre ++ [l]).map (keyL v)) []
      rw [List.length_map, List.length_append] at h2
      simp only [List.length_nil, List.length_singleton] at h2
      omega
    have mapc : (pre ++ [l]).map (keyL v) = pre.map (keyL v) ++ [keyL v l] := by simp
    rw [← mapc] at us
    show WSs _ _ [some (wD v), some (.lst ((usedL v).map D.int)), some (.lst ((uniq [] (v.ends.map (col v))).map LB)), some (.lst ((v.ends.map (kn v)).map D.int)), none, some (LI (keyL v l)), some (tupI l), some (.lst ((uniq [] (pre.map (keyL v))).map LI)), some (.str (pre.map fun l => 97 + ixOf (uniq [] (v.lifts.map (keyL v))) (keyL v l))), some (.str (lit "abcdefghijklmnopqrstuvwxyz")), none, none] _ _
    refine .cut (fun ρ' M3 => ρ' = [some (wD v), some (.lst ((usedL v).map D.int)), some (.lst ((uniq [] (v.ends.map (col v))).map LB)), some (.lst ((v.ends.map (kn v)).map D.int)), none, some (LI (keyL v l)), some (tupI l), some (.lst ((uniq [] ((pre ++ [l]).map (keyL v))).map LI)), some (.str (pre.map fun l => 97 + ixOf (uniq [] (v.lifts.map (keyL v))) (keyL v l))), some (.str (lit "abcdefghijklmnopqrstuvwxyz")), none, none] ∧ M3 = M2) ?_ ?_
    · refine .setN 7 s__law_reduced.nd <| .ife <| .cmp <| .var 5 rfl <| .var 7 rfl <| VO.inD hu65 (shp_LI _) (shp_list isS_LI dep_LI _) ⟨_, rfl, fun z => ?_, fun z => ?_⟩
      · rw [us, if_pos (any_t eqD_LI z)]
        exact .var 7 rfl ⟨rfl, rfl⟩
      · rw [us, if_neg (any_f eqD_LI z)]
        exact .bin <| .var 7 rfl <| .list <| .cons <| .var 5 rfl <| .nil ⟨by show 1 ≤ sizeLine; decide, VO.catL (by simp; omega) ⟨by rw [List.map_append]; rfl, rfl⟩⟩
    rintro ρ' M3 ⟨rfl, rfl⟩
    have em : (pre.map fun l => 97 + ixOf (uniq [] (v.lifts.map (keyL v))) (keyL v l)) ++ [97 + ixOf (uniq [] (v.lifts.map (keyL v))) (keyL v l)] = (pre ++ [l]).map fun l => 97 + ixOf (uniq [] (v.lifts.map (keyL v))) (keyL v l) := by rw [List.map_append]; rfl
    refine .one <| .setN 8 s__law_reduced.nd <| .bin <| .var 8 rfl <| .ix <| .var 9 rfl <| .bm PySem.F.plainAttrs_list PySem.F.slot_list_index PySem.F.type_list_index <| .var 7 rfl ⟨.lst, .cons <| .var 5 rfl <| .nil <| VM.index hu65 (shp_list isS_LI dep_LI _) (shp_LI _) (find_eqD eqD_LI mem) ?_⟩
    rw [ixe]
    refine VI.str (c := 97 + ixOf (uniq [] (v.lifts.map (keyL v))) (keyL v l)) (by rw [alpha_len]; omega) ?_ <| VO.addS (by simp; omega) ⟨⟨_, _, by rw [← em]; rfl⟩, rfl⟩
    rw [TL.atI_nat]
    have : ∀ i, i < 26 → (lit "abcdefghijklmnopqrstuvwxyz")[i]? = some (97 + i) := by decide +kernel
    exact this _ ilt
  rintro ρ M' ⟨⟨x5, x6, rfl⟩, rfl⟩
  rw [led_eq]
  refine ⟨[some (wD v), some (.lst ((usedL v).map D.int)), some (.lst ((uniq [] (v.ends.map (col v))).map LB)), some (.lst ((v.ends.map (kn v)).map D.int)), none, none, none, some (.lst ((uniq [] (v.lifts.map (keyL v))).map LI)), some (.str (redL v)), some (.str (lit "abcdefghijklmnopqrstuvwxyz")), none, none], by simp [Le], ?_⟩
  -- the lifts
  refine .cons <| .setN 10 s__law_reduced.nd <| .listM <| .nil ⟨by show 0 ≤ sizeLine; decide, fun q hq => ?_⟩
  refine .cons <| .for (L2.passes_of rfl) rfl ?_
  refine WI.list <| .var 7 rfl ⟨_, rfl, ?_⟩
  have kul := uniq_len (v.lifts.map (keyL v)) []
  simp at kul
  refine ForT.map LI (fun pre ρ M2 => (∃ x5, ρ = [some (wD v), some (.lst ((usedL v).map D.int)), some (.lst ((uniq [] (v.ends.map (col v))).map LB)), some (.lst ((v.ends.map (kn v)).map D.int)), none, x5, none, some (.lst ((uniq [] (v.lifts.map (keyL v))).map LI)), some (.str (redL v)), some (.str (lit "abcdefghijklmnopqrstuvwxyz")), some (.ref q), none]) ∧ M2 = mset M' q (.lst ((pre.map (lawLift v)).map tupI))) ?_ ?_ ⟨⟨none, rfl⟩, rfl⟩
  · rintro pre key post ρ M2 el ⟨⟨x5, rfl⟩, rfl⟩
    have hpl : pre.length < (uniq [] (v.lifts.map (keyL v))).length := by rw [el]; simp
    refine .nameN 5 s__law_reduced.nd ?_
    refine .one <| .expr <| .bm PySem.F.plainAttrs_list PySem.F.slot_list_append PySem.F.type_list_append <| .var 10 rfl ⟨.lstM mset_same, .cons <| .callTy c.n_tuple rfl <| .cons <| .sortedSetI rfl c.n_sorted c.n_set ?_⟩
    refine WE.lc2 11 4 [("_law_n", 11), ("_law_shaft", 4)] rfl s__law_reduced.nd (show BlkOk n__law_reduced (defScope (top 51)) _ _ from ⟨rfl, by decide +kernel, by decide +kernel, by decide +kernel, by decide +kernel⟩) ?_
    refine WI.zip c.n_zip <| .cons <| .var 3 rfl <| .cons <| .ix <| .var 0 rfl <| .str <| VI.get hu1 (sk_str _) w_look2 <| .nil ⟨_, _, _, _, rfl, rfl, rfl, ?_⟩
    have ez : zpD ((v.ends.map (kn v)).map D.int) (v.ends.map D.int) = v.ends.map fun e => .tup [.int (kn v e), .int e] := by
      unfold zpD
      rw [List.map_map, List.zipWith_map, List.zipWith_self]
      rfl
    rw [ez]
    refine CompT.stepIf (fun e => D.tup [.int (kn v e), .int e]) (fun pr acc M3 => acc = ((pr.filter fun e => decide (e ∈ key)).map (kn v)).map D.int ∧ M3 = mset M' q (.lst ((pre.map (lawLift v)).map tupI))) ?_ (by omega) ?_ ⟨rfl, rfl⟩
    · rintro pr x post' acc M3 _ ⟨rfl, rfl⟩
      refine ⟨_, rfl, fun b M1 => b = decide (x ∈ key) ∧ M1 = mset M' q (.lst ((pre.map (lawLift v)).map tupI)), fun s H C cl fp => .cmp <| .var 4 rfl <| .var 5 rfl <| .inL rfl (flat_ints _) ⟨_, rfl, by rw [any_ints], rfl⟩, ?_, ?_⟩
      · rintro M1 ⟨z, rfl⟩
        have := of_decide_eq_false z.symm
        exact ⟨by rw [List.filter_append]; simp [this], rfl⟩
      · rintro M1 ⟨z, rfl⟩
        have := of_decide_eq_true z.symm
        exact fun s H C cl fp => .var 11 rfl ⟨by rw [List.filter_append]; simp [this], rfl⟩
    rintro acc M3 ⟨rfl, rfl⟩
    have fl : (v.ends.filter fun e => decide (e ∈ key)).length ≤ v.ends.length := List.length_filter_le ..
    refine ⟨_, .lstI _, by rw [List.length_map]; show _ < 4096; omega, .nil <| VC.tupleL <| .nil <| VM.append mset_same (by simp; omega) ?_⟩
    rw [mset_mset]
    exact ⟨⟨_, rfl⟩, by rw [List.map_append, List.map_append]; rfl⟩
  rintro ρ M2 ⟨⟨x5, rfl⟩, rfl⟩
  rw [keys_uniq]
  refine ⟨[some (wD v), some (.lst ((usedL v).map D.int)), some (.lst ((uniq [] (v.ends.map (col v))).map LB)), some (.lst ((v.ends.map (kn v)).map D.int)), none, none, none, some (.lst ((uniq [] (v.lifts.map (keyL v))).map LI)), some (.str (redL v)), some (.str (lit "abcdefghijklmnopqrstuvwxyz")), some (.ref q), none], by simp [Le], ?_⟩
  have knl : (uniq [] (v.ends.map (col v))).length = (uniq [] (v.ends.map (kn v))).length := by rw [← kinds_ulen, kinds_col]
  have cul := uniq_len (v.ends.map (col v)) []
  simp at cul
  refine .one <| .ret <| .drop q <| .disp <| .cons <| .str <| .callB c.n_len rfl <| .cons <| .var 2 rfl <| .nil <| VC.len (n := (uniq [] (v.ends.map (col v))).length) (by simp [lenD]) ?_
  refine .cons <| .str <| .callTy c.n_tuple rfl <| .cons <| .var 3 rfl <| .nil <| VC.tupleL <| .cons <| .str <| .callTy c.n_tuple rfl <| .cons <| .var 10 rfl <| .nil <| VC.tupleM mset_same <| .cons <| .str <| .var 8 rfl <| .nil ⟨rO v, by rw [knl]; rfl, by show 4 ≤ 15; decide, ?_⟩
  rw [r_merge, mdel_mset hq]
  exact h
end
end K81
end
section
set_option maxRecDepth 100000
/-! K81Q: reduced looms, in plain Lean. -/
namespace K81
open PySem PySem.Spec PyProof.Rows L2 TL
/-- a shaft stands in a led lift just if it stands in the lift -/
theorem mem_red {v : LW} {e : Int} {l : List Int} (he : e ∈ v.ends) (hl : l ∈ v.lifts) : kn v e ∈ redLift v l ↔ e ∈ l := by
  rw [redLift_mem]
  constructor
  · rintro ⟨e', h1, h2, h3⟩
    exact (lift_of_col (col_of_kn he h2 h3) hl).mpr h1
  · exact fun h => ⟨e, h, he, rfl⟩
theorem kn_of_col {v : LW} {e e' : Int} (h : col v e = col v e') : kn v e = kn v e' := by
  show ((knN v e : Nat) : Int) = ((knN v e' : Nat) : Int)
  unfold knN; rw [h]
theorem pickOf_red {v : LW} {l : List Int} (hl : l ∈ v.lifts) : pickOf (redW v).ends (redLift v l) = pickOf v.ends l := by
  show ((v.ends.map (kn v)).map _) = _
  rw [List.map_map]
  refine List.map_congr_left fun e he => ?_
  show (if kn v e ∈ redLift v l then 120 else 45) = if e ∈ l then 120 else 45
  by_cases h : e ∈ l
  · rw [if_pos h, if_pos ((mem_red he hl).mpr h)]
  · rw [if_neg h, if_neg fun z => h ((mem_red he hl).mp z)]
theorem redL_get {v : LW} {i : Nat} {l : List Int} (h : v.lifts[i]? = some l) : (redL v)[i]? = some (97 + ixOf (uniq [] (redLifts v)) (redLift v l)) := by
  unfold redL kindsOf
  rw [List.map_map, List.getElem?_map]
  have : (redLifts v)[i]? = some (redLift v l) := by unfold redLifts; rw [List.getElem?_map, h]; rfl
  rw [this]
  show some (97 + _) = _
  rw [Int.toNat_natCast]
theorem row_red {v : LW} {i : Nat} (h : i < v.lifts.length) : rowOf (redW v) ((redL v).getD i 0) = rowOf v (97 + i) := by
  have e1 : v.lifts[i]? = some v.lifts[i] := List.getElem?_eq_getElem h
  have hl : v.lifts[i] ∈ v.lifts := List.getElem_mem h
  have h1 : redLift v v.lifts[i] ∈ uniq [] (redLifts v) := mem_u.mpr (List.mem_map_of_mem hl)
  unfold rowOf
  rw [List.getD_eq_getElem?_getD (l := redL v), redL_get e1, Option.getD_some, Nat.add_sub_cancel_left, Nat.add_sub_cancel_left, List.getD_eq_getElem?_getD, List.getD_eq_getElem?_getD]
  rw [show (redW v).lifts = uniq [] (redLifts v) from rfl, ixOf_get h1, e1]
  exact pickOf_red hl
theorem tr_get {v : LW} {t : List Nat} (l1 : v.lifts.length ≤ 26) (ht : okTr v t = true) {x : Nat} (hx : x ∈ t) : ∃ i, i < v.lifts.length ∧ x = 97 + i :=
  mem_alpha l1 (of_decide_eq_true (List.all_eq_true.mp ht x hx))
theorem rows_red {v : LW} {t : List Nat} (l1 : v.lifts.length ≤ 26) (ht : okTr v t = true) : rowsOf (redW v) (ledT v t) = rowsOf v t := by
  unfold rowsOf ledT
  rw [List.map_map]
  refine List.map_congr_left fun x hx => ?_
  obtain ⟨i, hi, rfl⟩ := tr_get l1 ht hx
  show rowOf (redW v) ((redL v).getD (97 + i - 97) 0) = _
  rw [Nat.add_sub_cancel_left]
  exact row_red hi
theorem led_ok {v : LW} {t : List Nat} (l1 : v.lifts.length ≤ 26) (ht : okTr v t = true) : okTr (redW v) (ledT v t) = true := by
  refine List.all_eq_true.mpr fun y hy => ?_
  obtain ⟨x, hx, rfl⟩ := List.mem_map.mp hy
  obtain ⟨i, hi, rfl⟩ := tr_get l1 ht hx
  have e1 : v.lifts[i]? = some v.lifts[i] := List.getElem?_eq_getElem hi
  have h1 : redLift v v.lifts[i] ∈ uniq [] (redLifts v) := mem_u.mpr (List.mem_map_of_mem (List.getElem_mem hi))
  have hlt := ixOf_lt h1
  have hul := uniq_len (redLifts v) []
  have hll : (redLifts v).length = v.lifts.length := by simp [redLifts]
  simp only [List.length_nil] at hul
  rw [Nat.add_sub_cancel_left, List.getD_eq_getElem?_getD, redL_get e1, Option.getD_some]
  refine decide_eq_true ?_
  show _ ∈ alpha.take (uniq [] (redLifts v)).length
  have : ∀ n, n ≤ 26 → ∀ i, i < n → 97 + i ∈ alpha.take n := by decide +kernel
  exact this _ (by omega) _ hlt
/-! ### once more the same -/
theorem col_red {v : LW} {e e' : Int} (he : e ∈ v.ends) (he' : e' ∈ v.ends) : col (redW v) (kn v e) = col (redW v) (kn v e') ↔ kn v e = kn v e' := by
  constructor
  · intro h
    refine kn_of_col ?_
    unfold col
    refine List.map_congr_left fun l hl => ?_
    have h1 : redLift v l ∈ (redW v).lifts := mem_u.mpr (List.mem_map_of_mem hl)
    have h2 := lift_of_col h h1
    rw [mem_red he hl, mem_red he' hl] at h2
    simp [h2]
  · intro h; rw [h]
theorem ends_uniq (v : LW) : uniq [] (v.ends.map (kn v)) = (List.range (uniq [] (v.ends.map (col v))).length).map fun (k : Nat) => (k : Int) := by
  rw [← kinds_col, kinds_uniq]
theorem kn_red {v : LW} {x : Int} (hx : x ∈ (redW v).ends) : kn (redW v) x = x := by
  obtain ⟨e, he, rfl⟩ := List.mem_map.mp hx
  show ((knN (redW v) (kn v e) : Nat) : Int) = _
  unfold knN
  have hinj : ∀ a b, a ∈ ([] : List Int) ∨ a ∈ v.ends.map (kn v) → b ∈ ([] : List Int) ∨ b ∈ v.ends.map (kn v) → col (redW v) a = col (redW v) b → a = b := fun a b ha hb h => by
    obtain ⟨e1, h1, rfl⟩ := List.mem_map.mp (ha.resolve_left (by simp))
    obtain ⟨e2, h2, rfl⟩ := List.mem_map.mp (hb.resolve_left (by simp))
    exact (col_red h1 h2).mp h
  have e1 : uniq [] ((redW v).ends.map (col (redW v))) = (uniq [] (v.ends.map (kn v))).map (col (redW v)) := uniq_map_on hinj
  have hm : kn v e ∈ uniq [] (v.ends.map (kn v)) := mem_u.mpr hx
  rw [e1, ixOf_map fun a ha h => hinj a _ (.inr (mem_u.mp ha)) (.inr hx) h]
  have e2 : (uniq [] (v.ends.map (kn v)))[knN v e]? = some (kn v e) := by
    rw [ends_uniq, List.getElem?_map, List.getElem?_range (by exact ixOf_lt (mem_u.mpr (List.mem_map_of_mem he)))]
    rfl
  rw [ixOf_at (nodup_u _) e2]
theorem map_id' {α : Type} {f : α → α} {l : List α} (h : ∀ x ∈ l, f x = x) : l.map f = l := by
  conv => rhs; rw [← List.map_id l]
  exact List.map_congr_left h
theorem uniq_id {α : Type} [DecidableEq α] : ∀ {l acc : List α}, (acc ++ l).Nodup → uniq acc l = acc ++ l
  | [], acc, _ => by simp [uniq]
  | x :: l, acc, h => by
    have hx : x ∉ acc := fun hx => by
      rw [List.nodup_append] at h
      exact h.2.2 x hx x (List.mem_cons_self ..) rfl
    unfold uniq
    rw [if_neg hx, uniq_id (by rwa [List.append_assoc]), List.append_assoc]; rfl
theorem sort_id {l : List Int} (h : l.Pairwise (· ≤ ·)) : sortI l = l := sorted_one (sortI_perm l) (sortI_le l) h
theorem redLift_red {v : LW} {m : List Int} (hm : m ∈ (redW v).lifts) : redLift (redW v) m = m := by
  obtain ⟨l, hl, rfl⟩ := List.mem_map.mp (mem_u.mp hm)
  have hsub : ∀ x ∈ redLift v l, x ∈ (redW v).ends := fun x hx => by
    obtain ⟨e, _, he, rfl⟩ := redLift_mem.mp hx
    exact List.mem_map_of_mem he
  have e1 : (redLift v l).filter (fun e => decide (e ∈ (redW v).ends)) = redLift v l := List.filter_eq_self.mpr fun x hx => by simpa using hsub x hx
  have e2 : (redLift v l).map (kn (redW v)) = redLift v l := map_id' fun x hx => kn_red (hsub x hx)
  show sortI (uniq [] (((redLift v l).filter _).map (kn (redW v)))) = _
  rw [e1, e2]
  have hlt : (redLift v l).Pairwise (· < ·) := sort_lt (nodup_u _)
  have hnd : (redLift v l).Nodup := hlt.imp fun h e => by omega
  rw [uniq_id (by rwa [List.nil_append]), List.nil_append]
  exact sort_id (hlt.imp fun h => by omega)
theorem redLifts_red (v : LW) : redLifts (redW v) = (redW v).lifts := map_id' fun m hm => redLift_red hm
theorem red_red (v : LW) : redW (redW v) = redW v := by
  have h1 : (redW v).ends.map (kn (redW v)) = (redW v).ends := map_id' fun x hx => kn_red hx
  have h2 : uniq [] (redLifts (redW v)) = (redW v).lifts := by
    rw [redLifts_red, uniq_id (by rw [List.nil_append]; exact nodup_u _), List.nil_append]
  show LW.mk _ _ _ = _
  rw [h1, h2]
  rfl
theorem redL_red {v : LW} (l1 : v.lifts.length ≤ 26) : redL (redW v) = alpha.take (redW v).lifts.length := by
  have hn : (redW v).lifts.Nodup := nodup_u _
  have hul := uniq_len (redLifts v) []
  have hll : (redLifts v).length = v.lifts.length := by simp [redLifts]
  simp only [List.length_nil] at hul
  have hl : (redW v).lifts.length ≤ 26 := by show (uniq [] (redLifts v)).length ≤ 26; omega
  unfold redL kindsOf
  rw [redLifts_red, uniq_id (by rwa [List.nil_append]), List.nil_append, map_ix hn, List.map_map]
  have : ∀ n, n ≤ 26 → (List.range n).map ((fun (k : Int) => 97 + k.toNat) ∘ fun (k : Nat) => (k : Int)) = alpha.take n := by decide +kernel
  exact this _ hl
/-! ### numbers of kinds -/
theorem sub_len {α : Type} [DecidableEq α] : ∀ {l m : List α}, l.Nodup → (∀ x ∈ l, x ∈ m) → l.length ≤ m.length
  | [], m, _, _ => by simp
  | x :: l, m, hn, h => by
    obtain ⟨h1, h2⟩ := List.nodup_cons.mp hn
    have hx := h x (List.mem_cons_self ..)
    have := sub_len (l := l) (m := m.erase x) h2 fun y hy => by
      have hne : y ≠ x := fun e => h1 (e ▸ hy)
      exact (List.mem_erase_of_ne hne).mpr (h y (List.mem_cons_of_mem _ hy))
    rw [List.length_erase_of_mem hx] at this
    have : 0 < m.length := List.length_pos_of_mem hx
    simp; omega
theorem kinds_map_le {α β : Type} [DecidableEq α] [DecidableEq β] (f : α → β) (l : List α) : (uniq [] (l.map f)).length ≤ (uniq [] l).length := by
  have := sub_len (l := uniq [] (l.map f)) (m := (uniq [] l).map f) (nodup_u _) fun x hx => by
    obtain ⟨y, hy, rfl⟩ := List.mem_map.mp (mem_u.mp hx)
    exact List.mem_map_of_mem (mem_u.mpr hy)
  simpa using this
theorem fewest_sh {v : LW} {t : List Nat} (l1 : v.lifts.length ≤ 26) (ht : okTr v t = true) : (uniq [] (kindsOf (colsOf (rowsOf v t) v.ends.length))).length ≤ (uniq [] (v.ends.map (kn v))).length := by
  rw [kinds_ulen, ← kinds_col, kinds_ulen]
  have e : colsOf (rowsOf v t) v.ends.length = (v.ends.map (col v)).map fun bs => t.map fun x => if bs.getD (x - 97) false = true then 120 else 45 := by
    unfold colsOf
    refine List.ext_getElem (by simp) fun j h1 h2 => ?_
    have hj : j < v.ends.length := by simpa using h1
    simp only [List.getElem_map, List.getElem_range]
    unfold rowsOf
    rw [List.map_map]
    refine List.map_congr_left fun x hx => ?_
    obtain ⟨i, hi, rfl⟩ := tr_get l1 ht hx
    show (rowOf v (97 + i)).getD j 0 = _
    unfold rowOf pickOf col
    rw [Nat.add_sub_cancel_left, List.getD_eq_getElem?_getD (l := v.lifts), List.getElem?_eq_getElem hi, Option.getD_some, List.getD_eq_getElem?_getD, List.getElem?_map, List.getElem?_eq_getElem hj, List.getD_eq_getElem?_getD, List.getElem?_map, List.getElem?_eq_getElem hi]
    simp
  rw [e]
  exact kinds_map_le _ _
theorem fewest_tr {v : LW} {t : List Nat} (l1 : v.lifts.length ≤ 26) (ht : okTr v t = true) : (uniq [] (kindsOf (rowsOf v t))).length ≤ (redW v).lifts.length := by
  rw [kinds_ulen]
  have := sub_len (l := uniq [] (rowsOf v t)) (m := (redW v).lifts.map (pickOf (redW v).ends)) (nodup_u _) fun x hx => by
    obtain ⟨y, hy, rfl⟩ := List.mem_map.mp (mem_u.mp hx)
    obtain ⟨i, hi, rfl⟩ := tr_get l1 ht hy
    refine List.mem_map.mpr ⟨redLift v v.lifts[i], mem_u.mpr (List.mem_map_of_mem (List.getElem_mem hi)), ?_⟩
    rw [pickOf_red (List.getElem_mem hi)]
    unfold rowOf
    rw [Nat.add_sub_cancel_left, List.getD_eq_getElem?_getD, List.getElem?_eq_getElem hi]; rfl
  simpa using this
/-! ### first crossings -/
theorem first_one {a b : List (List Nat)} {n m : Nat} {r s : Option (Nat × Nat)} (h : IsFirst a b n m r) (k : IsFirst a b n m s) : r = s := by
  cases r with
  | none => cases s with
    | none => rfl
    | some q => exact absurd (h q.1 q.2) k.1
  | some p => cases s with
    | none => exact absurd (k p.1 p.2) h.1
    | some q =>
      obtain ⟨p1, p2⟩ := p
      obtain ⟨q1, q2⟩ := q
      rcases Nat.lt_trichotomy p1 q1 with hl | hl | hl
      · exact absurd (k.2 p1 p2 (.inl hl)) h.1
      · subst hl
        rcases Nat.lt_trichotomy p2 q2 with hl | hl | hl
        · exact absurd (k.2 p1 p2 (.inr ⟨rfl, hl⟩)) h.1
        · subst hl; rfl
        · exact absurd (h.2 p1 q2 (.inr ⟨rfl, hl⟩)) k.1
      · exact absurd (h.2 q1 q2 (.inl hl)) k.1
theorem first_symm {a b : List (List Nat)} {n m : Nat} {r : Option (Nat × Nat)} (h : IsFirst a b n m r) : IsFirst b a m n r := by
  cases r with
  | none => exact fun p e => (h p e).symm
  | some p => exact ⟨Ne.symm h.1, fun p' e' q => (h.2 p' e' q).symm⟩
theorem first_same {a : List (List Nat)} {n : Nat} {r : Option (Nat × Nat)} (h : IsFirst a a n n r) : r = none := first_one h (s := none) fun _ _ => rfl
theorem sign_in {a : List (List Nat)} {n p e : Nat} (h : p < a.length) (h2 : e < n) : signAt a n p e = [(a.getD p []).getD e 0] := if_pos ⟨h, h2⟩
/-- alike at all crossings: the same -/
theorem first_none {a b : List (List Nat)} {n m : Nat} (ca : CW a n) (cb : CW b m) (h : IsFirst a b n m none) : a = b := by
  have n0 := ca.n0
  have m0 := cb.n0
  have la : 0 < a.length := List.length_pos_iff.mpr ca.r0
  have lb : 0 < b.length := List.length_pos_iff.mpr cb.r0
  have emp : ∀ (c : List (List Nat)) (k p e : Nat), signAt c k p e = [] ↔ ¬ (p < c.length ∧ e < k) := fun c k p e => by
    unfold signAt; split <;> simp_all
  have hnm : n = m := by
    have h1 := h 0 (n - 1)
    have h2 := h 0 (m - 1)
    rcases Nat.lt_trichotomy n m with hl | hl | hl
    · rw [(emp a n (0) (m - 1)).mpr (by omega)] at h2
      have := (emp _ _ _ _).mp h2.symm; omega
    · exact hl
    · rw [(emp b m (0) (n - 1)).mpr (by omega)] at h1
      have := (emp _ _ _ _).mp h1; omega
  subst hnm
  have hl : a.length = b.length := by
    have h1 := h (a.length - 1) 0
    have h2 := h (b.length - 1) 0
    rcases Nat.lt_trichotomy a.length b.length with hl | hl | hl
    · rw [(emp a n (b.length - 1) (0)).mpr (by omega)] at h2
      have := (emp _ _ _ _).mp h2.symm; omega
    · exact hl
    · rw [(emp b n (a.length - 1) (0)).mpr (by omega)] at h1
      have := (emp _ _ _ _).mp h1; omega
  refine List.ext_getElem hl fun p h1 h2 => ?_
  have r1 := (ca.r2 a[p] (List.getElem_mem h1)).1
  have r2 := (cb.r2 b[p] (List.getElem_mem h2)).1
  refine List.ext_getElem (by omega) fun e h3 h4 => ?_
  have := h p e
  rw [sign_in h1 (by omega), sign_in h2 (by omega), List.getD_eq_getElem?_getD (l := a), List.getD_eq_getElem?_getD (l := b), List.getElem?_eq_getElem h1, List.getElem?_eq_getElem h2, Option.getD_some, Option.getD_some, List.getD_eq_getElem?_getD, List.getD_eq_getElem?_getD, List.getElem?_eq_getElem h3, List.getElem?_eq_getElem h4] at this
  simpa using this
end K81
end
section
set_option maxRecDepth 100000
set_option maxHeartbeats 0
/-! K81R: what the law asks of led letters and looms. -/
namespace K81
open PySem PySem.Spec PyProof.Rows L2 TL
open He (ga ma fAd)
section
variable {w : World} {K : PySem.W.Frag} {mg : Str → Option Value} {base : Heap} {M : Mp} {Q : DQ}
theorem E81.k_led (c : E81 w K mg base) : KwB (fdOf K ("led_treadling", none)) ["loom", "treadling"] ["treadling", "loom"] true := kwB c.f_led_treadling fun _ _ _ _ _ _ ws hl => match ws, hl with | [_, _], _ => rfl
theorem E81.k_reduced (c : E81 w K mg base) : KwB (fdOf K ("reduced", none)) ["loom"] ["loom"] false := kwB c.f_reduced fun _ _ _ _ _ _ ws hl => match ws, hl with | [_], _ => rfl
theorem E81.k_is_reduced (c : E81 w K mg base) : KwB (fdOf K ("is_reduced", none)) ["loom"] ["loom"] false := kwB c.f_is_reduced fun _ _ _ _ _ _ ws hl => match ws, hl with | [_], _ => rfl
theorem E81.k_first (c : E81 w K mg base) : KwB (fdOf K ("first_crossing", none)) ["one", "other"] ["other", "one"] true := kwB c.f_first_crossing fun _ _ _ _ _ _ ws hl => match ws, hl with | [_, _], _ => rfl
/-- what is told of a value -/
def toldD (v : LW) (d : D) : D := match d with
  | .str t => if okTr v t = true then .str (ledT v t) else .lst [.str (lit "bad"), d, .bl true]
  | _ => .lst [.str (lit "bad"), d, .bl true]
/-- a value that the law asks -/
structure AskD (v : LW) (d : D) : Prop where
  k : (∃ t, d = .str t ∧ t.length ≤ 1000) ∨ ((∀ t, d ≠ .str t) ∧ NoTr v d)
theorem t_law_led (c : E81 w K mg base) {v : LW} (ok : LawW v) {d : D} (hd : AskD v d) {b : Bool} (h : Q (toldD v d) M) :
    TFn P81 w K mg base 8 (ga K "_law_led") (fdOf K ("_law_led", none)) ["_law_w", "_law_it", "_law_by_name"] [wD v, d, .bl b] M Q := by
  refine TFn.of c.f__law_led s__law_led rfl fun cdv A outer s H F hr => ?_
  have h99 : v.ends.length ≤ 99 := by have := ok.e9; omega
  have dne : ∀ {E1 E2 E3 : D}, (∀ t, d ≠ .str t) → toldD v d = .lst [.str (lit "bad"), d, .bl true] := fun hn => by
    unfold toldD
    cases d <;> first | rfl | exact absurd rfl (hn _)
  -- the call's two ends
  have key : (∃ t, d = .str t ∧ t.length ≤ 1000 ∧ okTr v t = true ∧ toldD v d = .str (ledT v t)) ∨ (NoTr v d ∧ toldD v d = .lst [.str (lit "bad"), d, .bl true]) := by
    rcases hd.k with ⟨t, rfl, hl⟩ | ⟨hn, no⟩
    · by_cases ht : okTr v t = true
      · exact .inl ⟨t, rfl, hl, ht, by simp [toldD, ht]⟩
      · exact .inr ⟨.txt hl (by simpa using ht), by simp [toldD, ht]⟩
    · exact .inr ⟨no, by
        unfold toldD
        cases d <;> first | rfl | exact absurd rfl (hn _)⟩
  have callT : TFn P81 w K mg base 7 (ga K "led_treadling") (fdOf K ("led_treadling", none)) ["loom", "treadling"] [loomD K v, d] M (fun x M' => (∃ t, d = .str t ∧ okTr v t = true ∧ x = .str (ledT v t)) ∧ M' = M ∧ toldD v d = x) (fun C fs M' => C = ga K "BadTreadling" ∧ fs = [(("thing" : Str), d)] ∧ M' = M ∧ toldD v d = .lst [.str (lit "bad"), d, .bl true]) := by
    rcases key with ⟨t, rfl, hl, ht, e⟩ | ⟨no, e⟩
    · exact t_led c ok.ok h99 hl ht ⟨⟨t, rfl, ht, rfl⟩, rfl, e⟩
    · exact t_led_no c no ⟨rfl, rfl, rfl, e⟩
  refine .cons <| .setN 3 s__law_led.nd <| .non ?_
  refine .cons <| WS.tryAs 4 ⟨rfl, by decide, .inl c.g_BadTreadling⟩ s__law_led.nd (EX := fun C fs ρ' M' => ρ' = [some (wD v), some d, some (.bl b), some .non, none] ∧ C = ga K "BadTreadling" ∧ fs = [(("thing" : Str), d)] ∧ M' = M ∧ toldD v d = .lst [.str (lit "bad"), d, .bl true]) (fun pn xe => ?_) ?_
  · refine .one <| .set 3 ?_ s__law_led.nd
    refine .ife <| .val <| .var 2 rfl ⟨b, rfl, fun _ => ?_, fun _ => ?_⟩
    · refine WEX.callKw true hr c.g_led_treadling c.f_led_treadling.kp c.k_led rfl (fun C fs M' q => ⟨rfl, q⟩) <| .cons <| .var 1 rfl <| .cons <| .call (hr.mono (j := 6) (by omega)) c.g__law_code c.f__law_code.kp c.b__law_code <| .cons <| .var 0 rfl <| .nil <| t_law_code c ok.ok w_look1 w_look2 w_look3 <| .nil <| callT.imp ?_
      rintro x M' ⟨_, rfl, e⟩
      refine .one <| .ret <| .var 3 rfl ?_
      rw [← e]; exact h
    · refine WEX.call hr c.g_led_treadling c.f_led_treadling.kp c.b_led_treadling (fun C fs M' q => ⟨rfl, q⟩) <| .cons <| .call (hr.mono (j := 6) (by omega)) c.g__law_code c.f__law_code.kp c.b__law_code <| .cons <| .var 0 rfl <| .nil <| t_law_code c ok.ok w_look1 w_look2 w_look3 <| .cons <| .var 1 rfl <| .nil <| callT.imp ?_
      rintro x M' ⟨_, rfl, e⟩
      refine .one <| .ret <| .var 3 rfl ?_
      rw [← e]; exact h
  · rintro C fs ρ' M' ⟨rfl, rfl, rfl, rfl, e⟩
    refine ⟨c.exm_BadTreadling, fun a dx oe pn hz hf => ?_⟩
    refine .one <| .setN 3 s__law_led.nd <| .list <| .cons <| .str <| .cons <| WE.xf c.exc.2 c.no_thing hz hf <| .var 4 rfl ⟨_, d, rfl, rfl, ?_⟩
    refine .cons <| .callB c.n_isinstance rfl <| .cons <| .var 4 rfl <| .cons <| .cls c.g_LoomError <| .nil <| VC.isE c.exc.1 hz hf c.kit_BadTreadling <| .nil ⟨by show 3 ≤ sizeLine; decide, ?_⟩
    refine .one <| .ret <| .var 3 rfl ?_
    rw [← e]; exact h
end
end K81
end
section
set_option maxRecDepth 100000
set_option maxHeartbeats 0
/-! K81S: whether the reduced loom is right. -/
namespace K81
open PySem PySem.Spec PyProof.Rows L2 TL
open He (ga ma fAd)
theorem red_ok' {v : LW} (ok : LawW v) : (redW v).Ok := red_ok ok.ok (by have := ok.e9; omega)
theorem red_ends (v : LW) : (redW v).ends.length = v.ends.length := by simp [redW]
theorem redL_small {v : LW} (l1 : v.lifts.length ≤ 26) : ∀ c ∈ redL v, c < 16 ^ 8 := fun c hc => by
  obtain ⟨k, hk, rfl⟩ := List.mem_map.mp hc
  obtain ⟨l, hl, rfl⟩ := List.mem_map.mp hk
  have h1 := ixOf_lt (mem_u.mpr hl)
  have h2 := uniq_len (redLifts v) []
  have h3 : (redLifts v).length = v.lifts.length := by simp [redLifts]
  simp only [List.length_nil] at h2
  rw [Int.toNat_natCast]
  omega
section
variable {w : World} {K : PySem.W.Frag} {mg : Str → Option Value} {base : Heap} {M : Mp} {Q : DQ}
theorem t_law_loom_right (c : E81 w K mg base) {v : LW} (ok : LawW v) (h : Q (.bl true) M) :
    TFn P81 w K mg base 8 (ga K "_law_loom_right") (fdOf K ("_law_loom_right", none)) ["_law_w", "_law_code_here"] [wD v, loomD K v] M Q := by
  refine TFn.of c.f__law_loom_right s__law_loom_right rfl fun cdv A outer s H F hr => ?_
  have hu := hr.room.units
  have hs := sizeLine_eq
  have hu1 : (A.deeper (envOfC "_law_loom_right" (defScope (top 55)) s.heap.objs.size (ga K "_law_loom_right") cdv)).units + 1 < cLine := by omega
  have h99 : v.ends.length ≤ 99 := by have := ok.e9; omega
  have l1 := ok.ok.l1
  have rok := red_ok' ok
  have r99 : (redW v).ends.length ≤ 99 := by rw [red_ends]; exact h99
  have rsm := redL_small l1
  have rlen : (redL v).length ≤ 26 := by rw [redL_len]; exact l1
  have lo : Lo (cxOf (L2.CX P81 w) P81 w K mg base n__law_loom_right "_law_loom_right" (defScope (top 55)) (ga K "_law_loom_right") cdv A outer s H (XEnd K H F M noX)) 7 := ⟨hr, rfl⟩
  have tred : TFn P81 w K mg base 6 (ga K "reduced") (fdOf K ("reduced", none)) ["loom"] [loomD K v] M fun x M' => x = .tup [loomD K (redW v), .str (redL v)] ∧ M' = M := t_reduced c ok.ok h99 ⟨rfl, rfl⟩
  refine .cons <| .setN 2 s__law_loom_right.nd <| .call (hr.mono (j := 1) (by omega)) c.g__law_reduced c.f__law_reduced.kp c.b__law_reduced <| .cons <| .var 0 rfl <| .nil <| t_law_reduced c ok.ok ?_
  refine .cons <| .setN 3 s__law_loom_right.nd <| WE.make c.mk_Loom (k := 4) (hr.mono (j := 5) (by omega)) c.g_Loom c.b_Loom_init <| .cons <| .ix <| .var 2 rfl <| .str <| VI.get hu1 (sk_str _) r_look1 <| .cons <| .ix <| .var 2 rfl <| .str <| VI.get hu1 (sk_str _) r_look2 <| .cons <| .ix <| .var 2 rfl <| .str <| VI.get hu1 (sk_str _) r_look3 <| .nil fun z hz => t_Loom_init c rok hz ?_
  -- both calls
  refine .cons <| .for (L2.passes_of rfl) rfl ?_
  refine WI.tup <| .tuple <| .cons <| .call (hr.mono (j := 6) (by omega)) c.g_reduced c.f_reduced.kp c.b_reduced <| .cons <| .var 1 rfl <| .nil <| tred.imp ?_
  rintro x M' ⟨rfl, rfl⟩
  refine .cons <| WE.callKw false (hr.mono (j := 6) (by omega)) c.g_reduced c.f_reduced.kp c.k_reduced rfl <| .cons <| .var 1 rfl <| .nil <| tred.imp ?_
  rintro x M2 ⟨rfl, rfl⟩
  refine .nil ⟨by show 2 ≤ sizeLine; decide, _, rfl, ?_⟩
  refine ForT.map (fun (_ : Unit) => D.tup [loomD K (redW v), .str (redL v)]) (fun pre ρ M3 => (∃ x4, ρ = [some (wD v), some (loomD K v), some (rD v), some (loomD K (redW v)), x4, none]) ∧ M3 = M2) (items := [(), ()]) ?_ ?_ ⟨⟨none, rfl⟩, rfl⟩
  · rintro pre x post ρ M3 el ⟨⟨x4, rfl⟩, rfl⟩
    refine .nameN 4 s__law_loom_right.nd ?_
    refine .skip <| .ww <| .or <| .not <| .val <| .callB c.n_isinstance rfl <| .cons <| .var 4 rfl <| .cons <| .ty c.n_tuple rfl <| .nil <| VC.isi (t := "tuple") (b := true) rfl rfl ⟨_, rfl, fun z => (nomatch z), fun _ => ?_⟩
    refine .or <| .cmp <| .callB c.n_len rfl <| .cons <| .var 4 rfl <| .nil <| VC.len (n := 2) (by simp [lenD]) <| .int <| VO.neI ⟨_, rfl, fun z => (nomatch z), fun _ => ?_⟩
    refine .or <| .not <| .cmp <| .ix <| .var 4 rfl <| .int <| VI.tup rfl <| .var 3 rfl <| VO.eqOwn (hr.mono (j := 1) (by omega)) c.sp_Loom_eq.1 c.sp_Loom_eq.2 c.b_Loom_eq <| t_Loom_eq c ⟨_, rfl, _, rfl, fun z => ?_, fun _ => ?_⟩
    · simp at z
    refine .or1 <| .cmp <| .callB c.n_repr rfl <| .cons <| .ix <| .var 4 rfl <| .int <| VI.tup rfl <| .nil <| VC.reprO lo c.sys (.str rsm) (by omega) (by omega) ?_
    refine .callB c.n_repr rfl <| .cons <| .ix <| .var 2 rfl <| .str <| VI.get hu1 (sk_str _) r_look4 <| .nil <| VC.reprO lo c.sys (.str rsm) (by omega) (by omega) <| VO.neS ⟨_, rfl, by simp, .done ?_⟩
    exact ⟨⟨_, rfl⟩, rfl⟩
  rintro ρ M3 ⟨⟨x4, rfl⟩, rfl⟩
  refine ⟨[some (wD v), some (loomD K v), some (rD v), some (loomD K (redW v)), none, none], by simp [Le], ?_⟩
  refine .cons <| .setN 5 s__law_loom_right.nd <| .cmp <| .var 3 rfl <| .var 1 rfl <| VO.eqOwn (hr.mono (j := 1) (by omega)) c.sp_Loom_eq.1 c.sp_Loom_eq.2 c.b_Loom_eq <| t_Loom_eq c ⟨_, rfl, ?_⟩
  have rr := red_red v
  refine .skip <| .cmp <| .callB c.n_repr rfl <| .cons <| .list <| .cons <| .call hr c.g_is_reduced c.f_is_reduced.kp c.b_is_reduced <| .cons <| .var 1 rfl <| .nil <| t_is_reduced c ok.ok h99 ?_
  refine .cons <| WE.callKw false hr c.g_is_reduced c.f_is_reduced.kp c.k_is_reduced rfl <| .cons <| .var 1 rfl <| .nil <| t_is_reduced c ok.ok h99 ?_
  refine .cons <| .call hr c.g_is_reduced c.f_is_reduced.kp c.b_is_reduced <| .cons <| .var 3 rfl <| .nil <| t_is_reduced c rok r99 ?_
  rw [rr]
  have repL : ∀ b1 b2 b3 : Bool, RepOk 3 1 (.lst [.bl b1, .bl b2, .bl b3]) := fun b1 b2 b3 => (RepOk.lst (n := 0) (p := 0) fun d hd => by
    simp at hd
    rcases hd with rfl | rfl | rfl <;> exact RepOk.bl _).mono (by simp) (by omega)
  refine .nil ⟨by show 3 ≤ sizeLine; decide, .nil <| VC.reprO lo c.sys (repL _ _ _) (by omega) (by omega) ?_⟩
  refine .callB c.n_repr rfl <| .cons <| .list <| .cons <| .var 5 rfl <| .cons <| .var 5 rfl <| .cons <| .bl <| .nil ⟨by show 3 ≤ sizeLine; decide, .nil <| VC.reprO lo c.sys (repL _ _ _) (by omega) (by omega) <| VO.neS ⟨_, rfl, by simp, ?_⟩⟩
  -- reduced again
  have rl := redL_red l1
  refine .one <| .ret <| .cmp <| .call (hr.mono (j := 6) (by omega)) c.g_reduced c.f_reduced.kp c.b_reduced <| .cons <| .var 3 rfl <| .nil <| t_reduced c rok r99 ?_
  rw [rr, rl]
  have hl3 : (redW v).lifts.length ≤ 26 := rok.l1
  refine .tuple <| .cons <| .var 3 rfl <| .cons <| .slice <| .str <| .none <| .some <| .callB c.n_len rfl <| .cons <| .ix <| .var 2 rfl <| .str <| VI.get hu1 (sk_str _) r_look3 <| .nil <| VC.len (n := (redW v).lifts.length) (by simp [lenD]) ⟨_, rfl, VS.str (by rw [alpha_len]; omega) ?_⟩
  rw [cut_take]
  refine .nil ⟨by show 2 ≤ sizeLine; decide, ?_⟩
  refine VO.eqTup2 (hr.mono (j := 1) (by omega)) ?_ (VB.flat rfl rfl (by simp [TL.eqD, py, PyData.eqv])) h
  exact VB.ins (hr.mono (j := 2) (by omega)).in1 rfl c.sp_Loom_eq.1 c.sp_Loom_eq.2 c.b_Loom_eq (t_Loom_eq c (by simp))
end
end K81
end
section
set_option maxRecDepth 100000
set_option maxHeartbeats 0
/-! K81T: values with something otherwise. -/
namespace K81
open PySem PySem.Spec PyProof.Rows L2 TL
open He (ga ma fAd)
/-- a value that may be asked, and shown -/
structure AskOk (v : LW) (d : D) : Prop where
  a : AskD v d
  r : RepOk 500 3 d
  s : ∀ t, d = .str t → t.length ≤ 100 ∧ ∀ c ∈ t, c < 128
theorem small {t : List Nat} (hc : ∀ c ∈ t, c < 128) : ∀ c ∈ t, c < 16 ^ 8 := fun c h => by have := hc c h; omega
theorem ask_txt {v : LW} {t : List Nat} (hl : t.length ≤ 100) (hc : ∀ c ∈ t, c < 128) : AskOk v (.str t) := ⟨⟨.inl ⟨t, rfl, by omega⟩⟩, (RepOk.str (small hc)).mono (by omega) (by omega), fun x e => by cases e; exact ⟨hl, hc⟩⟩
theorem ask_oth {v : LW} {d : D} {t : String} (ht : tyD d = some t) (hk : kitB t "str" = some false) (hr : RepOk 500 3 d) : AskOk v d :=
  ⟨⟨.inr ⟨fun x e => by
    subst e
    have : t = "str" := (Option.some.inj ht).symm
    subst this
    exact absurd hk (by decide), .oth ht hk⟩⟩, hr, fun x e => by
    subst e
    have : t = "str" := (Option.some.inj ht).symm
    subst this
    exact absurd hk (by decide)⟩
section
variable {w : World} {K : PySem.W.Frag} {mg : Str → Option Value} {base : Heap} {M : Mp} {Q : DQ}
theorem t_law_bent (c : E81 w K mg base) {v : LW} {t : List Nat} (hl : t.length ≤ 40) (hc : ∀ x ∈ t, x < 128) {a l : Addr} {k : Dk} (hn : l ≠ a) {n : Nat} (kn : DkN k n) (hd : n < 900000)
    (h : ∀ d k', AskOk v d → DkN k' (n + 5) → Q d (dkM a l k' M)) :
    TFn P81 w K mg base 3 (ga K "_law_bent") (fdOf K ("_law_bent", none)) ["_law_deck_here", "_law_it", "_law_deep"] [.ref a, .str t, .int 0] (dkM a l k M) Q := by
  refine TFn.of c.f__law_bent s__law_bent rfl fun cdv A outer s H F hr => ?_
  have hs := sizeLine_eq
  have hr1 := hr.mono (j := 1) (by omega)
  refine .skip <| .ww <| .and <| .val <| .callB c.n_isinstance rfl <| .cons <| .var 1 rfl <| .cons <| .ty c.n_tuple rfl <| .nil <| VC.isi (t := "str") (b := false) rfl rfl ⟨_, rfl, fun _ => ⟨rfl, ?_⟩, fun z => (nomatch z)⟩
  refine .skip <| .ww <| .and <| .val <| .callB c.n_isinstance rfl <| .cons <| .var 1 rfl <| .cons <| .ty c.n_int rfl <| .nil <| VC.isi (t := "str") (b := false) rfl rfl ⟨_, rfl, fun _ => ⟨rfl, ?_⟩, fun z => (nomatch z)⟩
  refine .cons <| .ite <| .ww <| .and <| .val <| .callB c.n_isinstance rfl <| .cons <| .var 1 rfl <| .cons <| .ty c.n_str rfl <| .nil <| VC.isi (t := "str") (b := true) rfl rfl ⟨_, rfl, fun z => (nomatch z), fun _ => ?_⟩
  refine .and1 <| .cmp <| .call hr1 c.g__law_draw c.f__law_draw.kp c.b__law_draw <| .cons <| .var 0 rfl <| .cons <| .int <| .nil <| t_draw c hn (by decide) (by decide) kn (by omega) fun x k1 x0 x1 kn1 => .int <| VO.gt ⟨_, rfl, fun _ => ?_, fun _ => .done ?_⟩
  · -- a text with something otherwise
    refine .cons <| .setN 3 s__law_bent.nd <| .call hr1 c.g__law_draw c.f__law_draw.kp c.b__law_draw <| .cons <| .var 0 rfl <| .cons <| .bin <| .callB c.n_len rfl <| .cons <| .var 1 rfl <| .nil <| VC.len (n := t.length) (by simp [lenD]; omega) <| .int <| VO.add <| .nil <| t_draw c hn (by omega) (by omega) kn1 (by omega) fun p k2 p0 p1 kn2 => ?_
    obtain ⟨p, rfl⟩ := Int.eq_ofNat_of_zero_le p0
    have cat : ∀ {x y : List Nat}, (∀ c ∈ x, c < 128) → (∀ c ∈ y, c < 128) → ∀ c ∈ x ++ y, c < 128 := fun hx hy c hc => by
      rcases List.mem_append.mp hc with h | h
      · exact hx c h
      · exact hy c h
    have htk : ∀ n, ∀ c ∈ t.take n, c < 128 := fun n c h => hc c (List.mem_of_mem_take h)
    have hdr : ∀ n, ∀ c ∈ t.drop n, c < 128 := fun n c h => hc c (List.mem_of_mem_drop h)
    have ltk : ∀ n, (t.take n).length ≤ 40 := fun n => by rw [List.length_take]; omega
    have ldr : ∀ n, (t.drop n).length ≤ 40 := fun n => by rw [List.length_drop]; omega
    have sl := fun n => ltk n
    refine .cons <| .setN 5 s__law_bent.nd <| .list <| .cons <| .bin <| .slice <| .var 1 rfl <| .none <| .some <| .var 3 rfl ⟨_, rfl, VS.str (by omega) ?_⟩
    rw [cut_take]
    refine .slice <| .var 1 rfl <| .some <| .bin <| .var 3 rfl <| .int <| VO.add ⟨_, rfl, .none <| VS.str (by omega) ?_⟩
    rw [show ((p : Int) + 1) = ((p + 1 : Nat) : Int) by omega, cut_drop]
    refine VO.addS (by have := ltk p; have := ldr (p + 1); omega) <| .cons <| .bin <| .var 1 rfl <| .slice <| .var 1 rfl <| .none <| .some <| .int ⟨_, rfl, VS.str (by omega) ?_⟩
    rw [show TL.cutD t none (some 1) = t.take 1 from cut_take t 1]
    refine VO.addS (by have := ltk 1; omega) <| .cons <| WE.revS <| .var 1 rfl ⟨t, rfl, by omega, ?_⟩
    refine .cons <| .bin <| .bin <| .slice <| .var 1 rfl <| .none <| .some <| .var 3 rfl ⟨_, rfl, VS.str (by omega) ?_⟩
    rw [cut_take]
    refine .call hr c.g__law_pick c.f__law_pick.kp c.b__law_pick <| .cons <| .var 0 rfl <| .cons <| .str <| .nil <| t_pick c hn kn2 (by omega) (.str _) (by decide +kernel) (by decide +kernel) fun d hd' k3 kn3 => ?_
    obtain ⟨y, hy, rfl⟩ := List.mem_map.mp hd'
    have hy2 : y < 128 := by
      have : ∀ y ∈ lit "abcdez-", y < 128 := by decide +kernel
      exact this y hy
    refine VO.addS (by have := ltk p; simp at *; omega) <| .slice <| .var 1 rfl <| .some <| .bin <| .var 3 rfl <| .int <| VO.add ⟨_, rfl, .none <| VS.str (by omega) ?_⟩
    rw [show ((p : Int) + 1) = ((p + 1 : Nat) : Int) by omega, cut_drop]
    refine VO.addS (by have := ltk p; have := ldr (p + 1); simp at *; omega) <| .cons <| .tuple <| .cons <| .var 1 rfl <| .nil ⟨by show 1 ≤ sizeLine; decide, .nil ⟨by show 5 ≤ sizeLine; decide, ?_⟩⟩
    refine .one <| .ret <| .call hr c.g__law_pick c.f__law_pick.kp c.b__law_pick <| .cons <| .var 0 rfl <| .cons <| .var 5 rfl <| .nil <| t_pick c hn kn3 (by omega) (.lst _) (by simp) (by simp) fun d hd' k4 kn4 => h d k4 ?_ (kn4.mono (by omega))
    simp only [List.mem_cons, List.not_mem_nil, or_false] at hd'
    rcases hd' with rfl | rfl | rfl | rfl | rfl
    · exact ask_txt (by have := ltk p; have := ldr (p + 1); simp at *; omega) (cat (htk _) (hdr _))
    · exact ask_txt (by have := ltk 1; simp at *; omega) (cat hc (htk _))
    · exact ask_txt (by simp; omega) (fun c hc' => hc c (by simpa using hc'))
    · exact ask_txt (by have := ltk p; have := ldr (p + 1); simp at *; omega) (cat (cat (htk _) (fun c hc' => by rw [List.mem_singleton.mp hc']; exact hy2)) (hdr _))
    · exact ask_oth (t := "tuple") rfl rfl ((RepOk.tup (n := t.length) (p := 0) fun d hd' => by rw [List.mem_singleton.mp hd']; exact RepOk.str (small hc)).mono (by simp; omega) (by omega))
  · refine .cons <| .setN 6 s__law_bent.nd <| .list <| .cons <| .non <| .cons <| .bl <| .cons <| .bl <| .cons <| .int <| .cons <| .int <| .cons <| .neg <| .int ⟨_, rfl, ?_⟩
    refine .cons <| .bin <| .int <| .int <| VO.pow ⟨by decide, by decide, by decide⟩ <| .cons <| .str <| .cons <| .str <| .cons <| .str <| .cons <| .str <| .cons <| .tuple <| .nil ⟨by show 0 ≤ sizeLine; decide, ?_⟩
    refine .cons <| .list <| .nil ⟨by show 0 ≤ sizeLine; decide, .cons <| .dicN <| .cons <| .tuple <| .cons <| .int <| .nil ⟨by show 1 ≤ sizeLine; decide, ?_⟩⟩
    refine .cons <| .tuple <| .cons <| .str <| .cons <| .int <| .nil ⟨by show 2 ≤ sizeLine; decide, .cons <| .tuple <| .cons <| .str <| .cons <| .int <| .nil ⟨by show 2 ≤ sizeLine; decide, ?_⟩⟩
    refine .cons <| .tuple <| .cons <| .tuple <| .nil ⟨by show 0 ≤ sizeLine; decide, .nil ⟨by show 1 ≤ sizeLine; decide, .nil ⟨by show 18 ≤ sizeLine; decide, ?_⟩⟩⟩
    refine .one <| .ret <| .call hr c.g__law_pick c.f__law_pick.kp c.b__law_pick <| .cons <| .var 0 rfl <| .cons <| .var 6 rfl <| .nil <| t_pick c hn kn1 (by omega) (.lst _) (by simp) (by simp) fun d hd' k4 kn4 => h d k4 ?_ (kn4.mono (by omega))
    simp only [List.mem_cons, List.not_mem_nil, or_false] at hd'
    rcases hd' with rfl | rfl | rfl | rfl | rfl | rfl | rfl | rfl | rfl | rfl | rfl | rfl | rfl | rfl | rfl | rfl | rfl | rfl
    · exact ask_oth (t := "NoneType") rfl rfl ⟨by decide +kernel, by decide +kernel, by decide +kernel, by decide +kernel⟩
    · exact ask_oth (t := "bool") rfl rfl ⟨by decide +kernel, by decide +kernel, by decide +kernel, by decide +kernel⟩
    · exact ask_oth (t := "bool") rfl rfl ⟨by decide +kernel, by decide +kernel, by decide +kernel, by decide +kernel⟩
    · exact ask_oth (t := "int") rfl rfl ⟨by decide +kernel, by decide +kernel, by decide +kernel, by decide +kernel⟩
    · exact ask_oth (t := "int") rfl rfl ⟨by decide +kernel, by decide +kernel, by decide +kernel, by decide +kernel⟩
    · exact ask_oth (t := "int") rfl rfl ⟨by decide +kernel, by decide +kernel, by decide +kernel, by decide +kernel⟩
    · exact ask_oth (t := "int") rfl rfl ⟨by decide +kernel, by decide +kernel, by decide +kernel, by decide +kernel⟩
    · exact ask_txt (by decide +kernel) (by decide +kernel)
    · exact ask_txt (by decide +kernel) (by decide +kernel)
    · exact ask_txt (by decide +kernel) (by decide +kernel)
    · exact ask_txt (by decide +kernel) (by decide +kernel)
    · exact ask_oth (t := "tuple") rfl rfl ⟨by decide +kernel, by decide +kernel, by decide +kernel, by decide +kernel⟩
    · exact ask_oth (t := "list") rfl rfl ⟨by decide +kernel, by decide +kernel, by decide +kernel, by decide +kernel⟩
    · exact ask_oth (t := "dict") rfl rfl ⟨by decide +kernel, by decide +kernel, by decide +kernel, by decide +kernel⟩
    · exact ask_oth (t := "tuple") rfl rfl ⟨by decide +kernel, by decide +kernel, by decide +kernel, by decide +kernel⟩
    · exact ask_oth (t := "tuple") rfl rfl ⟨by decide +kernel, by decide +kernel, by decide +kernel, by decide +kernel⟩
    · exact ask_oth (t := "tuple") rfl rfl ⟨by decide +kernel, by decide +kernel, by decide +kernel, by decide +kernel⟩
    · exact ask_oth (t := "tuple") rfl rfl ⟨by decide +kernel, by decide +kernel, by decide +kernel, by decide +kernel⟩
end
end K81
end
section
set_option maxRecDepth 100000
set_option maxHeartbeats 0
/-! K81U: first crossings by the law. -/
namespace TL
open PySem PySem.Spec PyProof.Rows L2
theorem WSs.drop {X : Cx} {sts : List Stmt} {ρ : En} {M : Mp} {E : TEs} (p : Addr) (h : WSs X sts ρ (mdel M p) E) : WSs X sts ρ M E :=
  ⟨fun pins s σ H F I S => thn (h.run pins s σ H F I (S.step (Stp.drop p S.good))) fun _ _ q => SP.back (Stp.drop p S.good) q⟩
end TL
namespace K81
open PySem PySem.Spec PyProof.Rows L2 TL
open He (ga ma fAd)
/-- all unlike crossings found so far: none, or the first one ahead -/
def FoundI (a b : List (List Nat)) (n m : Nat) (fs : List (Nat × Nat)) (done : Nat → Nat → Prop) : Prop :=
  (fs = [] ∧ ∀ p e, done p e → signAt a n p e = signAt b m p e) ∨ ∃ p e rest, fs = (p, e) :: rest ∧ IsFirst a b n m (some (p, e))
def prD (q : Nat × Nat) : D := .tup [.int q.1, .int q.2]
theorem isS_pr (q : Nat × Nat) : isS (prD q) = true := by simp [prD, isS, areS]
theorem dep_pr (q : Nat × Nat) : dep (prD q) = 1 := by simp [prD, dep, deps]
section
variable {w : World} {K : PySem.W.Frag} {mg : Str → Option Value} {base : Heap} {M : Mp} {Q : DQ}
theorem t_law_first (c : E81 w K mg base) {a b : List (List Nat)} {n m : Nat} (ca : CW a n) (cb : CW b m) (a9 : a.length ≤ 100) (b9 : b.length ≤ 100) (n9 : n ≤ 100) (m9 : m ≤ 100) (h : ∀ r, IsFirst a b n m r → Q (optD r) M) :
    TFn P81 w K mg base 1 (ga K "_law_first") (fdOf K ("_law_first", none)) ["_law_near", "_law_far"] [.tup (a.map D.str), .tup (b.map D.str)] M Q := by
  refine TFn.of c.f__law_first s__law_first rfl fun cdv A outer s' H F hr => ?_
  have hu := hr.room.units
  have hs := sizeLine_eq
  have at0 : ∀ {r : List (List Nat)} {k : Nat}, CW r k → ∃ x, L2.atI (r.map D.str) 0 = some (.str x) ∧ x.length = k := fun {r k} cr => by
    cases e : r with
    | nil => exact absurd e cr.r0
    | cons x rs => exact ⟨x, by rw [show (0 : Int) = ((0 : Nat) : Int) from rfl, TL.atI_nat]; rfl, (cr.r2 x (by rw [e]; exact List.mem_cons_self ..)).1⟩
  obtain ⟨xa, ea, la⟩ := at0 ca
  obtain ⟨xb, eb, lb⟩ := at0 cb
  refine .cons <| .setN 2 s__law_first.nd <| .listM <| .nil ⟨by show 0 ≤ sizeLine; decide, fun p hp => ?_⟩
  refine .cons <| .for (L2.passes_of rfl) rfl ?_
  refine WI.range1 c.n_range <| .callB c.n_max rfl <| .cons <| .callB c.n_len rfl <| .cons <| .var 0 rfl <| .nil <| VC.len (n := a.length) (by simp [lenD]) <| .cons <| .callB c.n_len rfl <| .cons <| .var 1 rfl <| .nil <| VC.len (n := b.length) (by simp [lenD]) <| .nil <| VC.max2 rfl ⟨_, rfl, by omega, by omega, ?_⟩
  have eP : (max (a.length : Int) (b.length : Int)).toNat = max a.length b.length := by omega
  rw [eP]
  unfold rng
  refine ForT.map (fun (i : Nat) => D.int (0 + (i : Int))) (fun pre ρ M2 => (∃ x3 x4 x5 x6 x7, ρ = [some (.tup (a.map D.str)), some (.tup (b.map D.str)), some (.ref p), x3, x4, x5, x6, x7]) ∧ ∃ fs : List (Nat × Nat), fs.length ≤ pre.length * 100 ∧ FoundI a b n m fs (fun p' _ => p' < pre.length) ∧ M2 = mset M p (.lst (fs.map prD))) ?_ ?_ ⟨⟨none, none, none, none, none, rfl⟩, [], by simp, .inl ⟨rfl, by simp⟩, rfl⟩
  · rintro pre k post ρ M2 e ⟨⟨x3, x4, x5, x6, x7, rfl⟩, fs, fl, fi, rfl⟩
    obtain ⟨rfl, hk⟩ := range_split e
    rw [List.length_range] at fl fi
    refine .nameN 3 s__law_first.nd ?_
    rw [Int.zero_add]
    refine .one <| .for (L2.passes_of rfl) rfl ?_
    refine WI.range1 c.n_range <| .callB c.n_max rfl <| .cons <| .callB c.n_len rfl <| .cons <| .ix <| .var 0 rfl <| .int <| VI.tup ea <| .nil <| VC.len (n := n) (by simp [lenD, la]; omega) <| .cons <| .callB c.n_len rfl <| .cons <| .ix <| .var 1 rfl <| .int <| VI.tup eb <| .nil <| VC.len (n := m) (by simp [lenD, lb]; omega) <| .nil <| VC.max2 rfl ⟨_, rfl, by omega, by omega, ?_⟩
    have eE : (max (n : Int) (m : Int)).toNat = max n m := by omega
    rw [eE]
    unfold rng
    refine ForT.map (fun (i : Nat) => D.int (0 + (i : Int))) (fun pre ρ M3 => (∃ x4 x5 x6 x7, ρ = [some (.tup (a.map D.str)), some (.tup (b.map D.str)), some (.ref p), some (.int k), x4, x5, x6, x7]) ∧ ∃ fs : List (Nat × Nat), fs.length ≤ k * 100 + pre.length ∧ FoundI a b n m fs (fun p' e' => p' < k ∨ (p' = k ∧ e' < pre.length)) ∧ M3 = mset M p (.lst (fs.map prD))) ?_ ?_ ⟨⟨x4, x5, x6, x7, rfl⟩, fs, fl, ?_, rfl⟩
    · rintro pre j post ρ M3 e2 ⟨⟨x4, x5, x6, x7, rfl⟩, fs, fl, fi, rfl⟩
      obtain ⟨rfl, hj⟩ := range_split e2
      rw [List.length_range] at fl fi
      refine .nameN 4 s__law_first.nd ?_
      rw [Int.zero_add]
      refine .cons <| .setN 5 s__law_first.nd <| .listM <| .nil ⟨by show 0 ≤ sizeLine; decide, fun q hq => ?_⟩
      have qp : q ≠ p := fun e => by rw [e, mset_same] at hq; cases hq
      rw [mset_ne qp] at hq
      refine .cons <| .for (L2.passes_of rfl) rfl ?_
      refine WI.tup <| .tuple <| .cons <| .var 0 rfl <| .cons <| .var 1 rfl <| .nil ⟨by show 2 ≤ sizeLine; decide, _, rfl, ?_⟩
      refine ForT.map (fun z : List (List Nat) × Nat => D.tup (z.1.map D.str)) (fun pr ρ M4 => (∃ x6 x7, ρ = [some (.tup (a.map D.str)), some (.tup (b.map D.str)), some (.ref p), some (.int k), some (.int j), some (.ref q), x6, x7]) ∧ M4 = mset (mset M p (.lst (fs.map prD))) q (.lst (pr.map fun z => .str (signAt z.1 z.2 k j)))) (items := [(a, n), (b, m)]) ?_ ?_ ⟨⟨x6, x7, rfl⟩, rfl⟩
      · rintro pr z post' ρ M4 e3 ⟨⟨x6, x7, rfl⟩, rfl⟩
        have hz : z = (a, n) ∨ z = (b, m) := by
          have : z ∈ [(a, n), (b, m)] := by rw [e3]; simp
          simpa using this
        obtain ⟨r, t⟩ := z
        have cr : CW r t ∧ r.length ≤ 100 ∧ t ≤ 100 := by
          rcases hz with e | e <;> cases e
          · exact ⟨ca, a9, n9⟩
          · exact ⟨cb, b9, m9⟩
        obtain ⟨cr, r9, t9⟩ := cr
        obtain ⟨x, ex, lx⟩ := at0 cr
        have prl : pr.length < 2 := by
          have := congrArg List.length e3
          simp at this; omega
        refine .nameN 6 s__law_first.nd ?_
        have fin : ∀ y, y = signAt r t k j → mset (mset (mset M p (.lst (fs.map prD))) q (.lst (pr.map fun z => D.str (signAt z.1 z.2 k j)))) q (.lst ((pr.map fun z => D.str (signAt z.1 z.2 k j)) ++ [.str y])) = mset (mset M p (.lst (fs.map prD))) q (.lst ((pr ++ [(r, t)]).map fun z => .str (signAt z.1 z.2 k j))) := fun y e => by
          rw [mset_mset, e, List.map_append]; rfl
        refine .cons <| .setN 7 s__law_first.nd <| .and <| .cmp <| .var 3 rfl <| .callB c.n_len rfl <| .cons <| .var 6 rfl <| .nil <| VC.len (n := r.length) (by simp [lenD]) <| VO.lt ⟨_, rfl, fun z1 => ?_, fun z1 => ?_⟩
        · have z1 := of_decide_eq_false z1
          refine .one <| .expr <| .bm PySem.F.plainAttrs_list PySem.F.slot_list_append PySem.F.type_list_append <| .var 5 rfl ⟨.lstM mset_same, .cons <| .ife <| .val <| .var 7 rfl ⟨false, rfl, fun z => (nomatch z), fun _ => .str <| .nil <| VM.append mset_same (by rw [List.length_map]; omega) ⟨⟨_, _, rfl⟩, fin _ ?_⟩⟩⟩
          rw [sign_far (.inl (by omega))]; rfl
        · have z1 := of_decide_eq_true z1
          refine .one <| .cmp <| .var 4 rfl <| .callB c.n_len rfl <| .cons <| .ix <| .var 6 rfl <| .int <| VI.tup ex <| .nil <| VC.len (n := t) (by simp [lenD, lx]; omega) <| VO.lt ?_
          have hkr : k < r.length := by omega
          have hrow := (cr.r2 r[k] (List.getElem_mem hkr)).1
          refine .one <| .expr <| .bm PySem.F.plainAttrs_list PySem.F.slot_list_append PySem.F.type_list_append <| .var 5 rfl ⟨.lstM mset_same, .cons <| .ife <| .val <| .var 7 rfl ⟨_, rfl, fun z => ?_, fun z => ?_⟩⟩
          · have z := of_decide_eq_true z
            have hjt : j < t := by omega
            refine .ix <| .ix <| .var 6 rfl <| .var 3 rfl <| .tup (d := .str r[k]) (by rw [TL.atI_nat, List.getElem?_map, List.getElem?_eq_getElem hkr]; rfl) <| .var 4 rfl <| VI.str (c := r[k].getD j 0) (by omega) (by rw [TL.atI_nat, List.getD_eq_getElem?_getD, List.getElem?_eq_getElem (by omega)]; rfl) <| .nil <| VM.append mset_same (by rw [List.length_map]; omega) ⟨⟨_, _, rfl⟩, fin _ ?_⟩
            rw [sign_in hkr hjt, List.getD_eq_getElem?_getD (l := r), List.getElem?_eq_getElem hkr]; rfl
          · have z := of_decide_eq_false z
            refine .str <| .nil <| VM.append mset_same (by rw [List.length_map]; omega) ⟨⟨_, _, rfl⟩, fin _ ?_⟩
            rw [sign_far (.inr (by omega))]; rfl
      · rintro ρ M4 ⟨⟨x6, x7, rfl⟩, rfl⟩
        refine ⟨_, Le.refl _, ?_⟩
        have gone : ∀ gs : List D, mdel (mset (mset (mset M p (.lst (fs.map prD))) q (.lst ([(a, n), (b, m)].map fun z => D.str (signAt z.1 z.2 k j)))) p (.lst gs)) q = mset M p (.lst gs) := fun gs => by
          rw [mset_comm qp, mset_mset, mdel_mset (by rw [mset_ne qp]; exact hq)]
        have gone' : mdel (mset (mset M p (.lst (fs.map prD))) q (.lst ([(a, n), (b, m)].map fun z => D.str (signAt z.1 z.2 k j)))) q = mset M p (.lst (fs.map prD)) := mdel_mset (by rw [mset_ne qp]; exact hq)
        refine .cons <| .ite <| .cmp <| .ix <| .var 5 rfl <| .int <| VI.lstM (d := .str (signAt a n k j)) mset_same rfl <| .ix <| .var 5 rfl <| .int <| VI.lstM (d := .str (signAt b m k j)) mset_same rfl <| VO.neS ⟨_, rfl, fun z => ?_, fun z => ?_⟩
        · have hne : signAt a n k j ≠ signAt b m k j := by simpa using z
          refine .one <| .expr <| .bm PySem.F.plainAttrs_list PySem.F.slot_list_append PySem.F.type_list_append <| .var 2 rfl ⟨.lstM (by rw [mset_ne (Ne.symm qp), mset_same]), .cons <| .tuple <| .cons <| .var 3 rfl <| .cons <| .var 4 rfl <| .nil ⟨by show 2 ≤ sizeLine; decide, .nil <| VM.append (by rw [mset_ne (Ne.symm qp), mset_same]) (by rw [List.length_map]; omega) ?_⟩⟩
          refine .drop q <| .done ⟨⟨_, _, _, _, rfl⟩, fs ++ [(k, j)], by simp; omega, ?_, by rw [gone, List.map_append]; rfl⟩
          rcases fi with ⟨rfl, hall⟩ | ⟨p1, e1, rest, rfl, hf⟩
          · exact .inr ⟨k, j, [], rfl, hne, fun p' e' hlt => hall p' e' hlt⟩
          · exact .inr ⟨p1, e1, rest ++ [(k, j)], rfl, hf⟩
        · have heq : signAt a n k j = signAt b m k j := by simpa using z
          refine .done <| .drop q <| .done ⟨⟨_, _, _, _, rfl⟩, fs, by simp; omega, ?_, gone'⟩
          rcases fi with ⟨rfl, hall⟩ | hf
          · refine .inl ⟨rfl, fun p' e' hlt => ?_⟩
            rw [List.length_append, List.length_range] at hlt
            by_cases he : p' = k ∧ e' = j
            · rw [he.1, he.2]; exact heq
            · exact hall p' e' (by simp at hlt; omega)
          · exact .inr hf
    · rintro ρ M3 ⟨⟨x4, x5, x6, x7, rfl⟩, fs, fl, fi, rfl⟩
      rw [List.length_range] at fl fi
      refine ⟨_, Le.refl _, ⟨_, _, _, _, _, rfl⟩, fs, by simp; omega, ?_, rfl⟩
      rcases fi with ⟨rfl, hall⟩ | hf
      · refine .inl ⟨rfl, fun p' e' hlt => ?_⟩
        rw [List.length_append, List.length_range] at hlt
        by_cases he : p' < k ∨ (p' = k ∧ e' < max n m)
        · exact hall p' e' he
        · have hpk : p' = k := by simp at hlt; omega
          rw [sign_far (.inr (by omega)), sign_far (.inr (by omega))]
      · exact .inr hf
    · rcases fi with ⟨rfl, hall⟩ | hf
      · exact .inl ⟨rfl, fun p' e' hlt => hall p' e' (by simp at hlt; exact hlt)⟩
      · exact .inr hf
  · rintro ρ M2 ⟨⟨x3, x4, x5, x6, x7, rfl⟩, fs, fl, fi, rfl⟩
    rw [List.length_range] at fl fi
    refine ⟨_, Le.refl _, .one <| .ret <| .drop p <| .ife <| .cmp <| .var 2 rfl <| .list <| .nil ⟨by show 0 ≤ sizeLine; decide, VO.neDM mset_same hu (shp_list isS_pr dep_pr _) shp_nil ⟨_, rfl, fun z => ?_, fun z => ?_⟩⟩⟩
    · rw [eqD_lnil] at z
      rcases fi with ⟨rfl, hall⟩ | ⟨p1, e1, rest, rfl, hf⟩
      · simp at z
      · refine .ix <| .var 2 rfl <| .int <| VI.lstM (d := prD (p1, e1)) mset_same (by rw [show (0 : Int) = ((0 : Nat) : Int) from rfl, TL.atI_nat]; rfl) ?_
        rw [mdel_mset hp]
        exact h (some (p1, e1)) hf
    · rw [eqD_lnil] at z
      rcases fi with ⟨rfl, hall⟩ | ⟨p1, e1, rest, rfl, hf⟩
      · refine .non ?_
        rw [mdel_mset hp]
        refine h none fun p' e' => ?_
        by_cases he : p' < max a.length b.length
        · exact hall p' e' he
        · rw [sign_far (.inl (by omega)), sign_far (.inl (by omega))]
      · simp at z
end
end K81
end
section
set_option maxRecDepth 100000
set_option maxHeartbeats 0
/-! K81V: drafts with something otherwise. -/
namespace K81
open PySem PySem.Spec PyProof.Rows L2 TL
open He (ga ma fAd)
theorem w_put2 {v : LW} {es : List Int} : putG (wO v) (sk "ends") (tupI es) = wO { v with ends := es } := by
  have h : ¬ lit "shafts" = lit "ends" := by decide +kernel
  have h2 : ¬ lit "lifts" = lit "ends" := by decide +kernel
  unfold putG wO
  simp [h, h2]
theorem w_put3 {v : LW} {ls : List (List Int)} : putG (wO v) (sk "lifts") (.tup (ls.map tupI)) = wO { v with lifts := ls } := by
  have h : ¬ lit "shafts" = lit "lifts" := by decide +kernel
  have h2 : ¬ lit "ends" = lit "lifts" := by decide +kernel
  unfold putG wO
  simp [h, h2]
/-- a drawn draft -/
structure LawDr (v : LW) (t : List Nat) : Prop where
  w : LawW v
  t0 : t ≠ []
  t1 : t.length ≤ 40
  tr : okTr v t = true
theorem LawDr.dr {v : LW} {t : List Nat} (d : LawDr v t) : DrOk v t := ⟨d.w.ok, d.t0, by have := d.t1; omega, d.tr⟩
theorem okTr_lifts {v u : LW} (h : v.lifts.length = u.lifts.length) (t : List Nat) : okTr v t = okTr u t := by unfold okTr; rw [h]
theorem okTr_app {v : LW} {x y : List Nat} (hx : okTr v x = true) (hy : okTr v y = true) : okTr v (x ++ y) = true := by
  unfold okTr at *
  rw [List.all_append, hx, hy]; rfl
theorem okTr_sub {v : LW} {x y : List Nat} (hx : okTr v x = true) (h : ∀ c ∈ y, c ∈ x) : okTr v y = true :=
  List.all_eq_true.mpr fun c hc => List.all_eq_true.mp hx c (h c hc)
theorem law_ends {v : LW} (ok : LawW v) {es : List Int} (h0 : es ≠ []) (h9 : es.length ≤ 9) (hb : ∀ i ∈ es, 0 ≤ i ∧ i < v.sh) : LawW { v with ends := es } :=
  ⟨⟨ok.ok.s1, ok.ok.s2, h0, by show es.length ≤ 100; omega, hb, ok.ok.l0, ok.ok.l1, ok.ok.l2⟩, ok.s4, h9, ok.l4⟩
theorem law_lifts {v : LW} (ok : LawW v) {ls : List (List Int)} (h0 : ls ≠ []) (h4 : ls.length ≤ 4) (hb : ∀ l ∈ ls, l.length ≤ 100 ∧ (∀ i ∈ l, 0 ≤ i ∧ i < v.sh) ∧ riseB l = true) : LawW { v with lifts := ls } :=
  ⟨⟨ok.ok.s1, ok.ok.s2, ok.ok.e0, ok.ok.e1, ok.ok.e2, h0, by show ls.length ≤ 26; omega, hb⟩, ok.s4, ok.e9, h4⟩
section
variable {w : World} {K : PySem.W.Frag} {mg : Str → Option Value} {base : Heap} {M : Mp} {Q : DQ}
theorem t_law_changed (c : E81 w K mg base) {v : LW} {t : List Nat} (ok : LawDr v t) (e7 : v.ends.length ≤ 7) (t30 : t.length ≤ 30) {a l : Addr} {k : Dk} (hn : l ≠ a) {n : Nat} (kn : DkN k n) (hd : n < 800000)
    (h : ∀ v' t' k', LawDr v' t' → DkN k' (n + 10) → Q (.tup [wD v', .str t']) (dkM a l k' M)) :
    TFn P81 w K mg base 5 (ga K "_law_changed") (fdOf K ("_law_changed", none)) ["_law_deck_here", "_law_w", "_law_text_now"] [.ref a, wD v, .str t] (dkM a l k M) Q := by
  refine TFn.of c.f__law_changed s__law_changed rfl fun cdv A outer s H F hr => ?_
  have hu := hr.room.units
  have hs := sizeLine_eq
  have hr1 := hr.mono (j := 1) (by omega)
  have hu1 : (A.deeper (envOfC "_law_changed" (defScope (top 58)) s.heap.objs.size (ga K "_law_changed") cdv)).units + 1 < cLine := by omega
  have s1 := ok.w.ok.s1
  have s4 := ok.w.s4
  have l4 := ok.w.l4
  have e0 : 0 < v.ends.length := List.length_pos_iff.mpr ok.w.ok.e0
  have l0 : 0 < v.lifts.length := List.length_pos_iff.mpr ok.w.ok.l0
  have t0 : 0 < t.length := List.length_pos_iff.mpr ok.t0
  have eb := ok.w.ok.e2
  have lb := ok.w.ok.l2
  refine .cons <| .par 3 4 rfl s__law_changed.nd <| .cons <| .call hr1 c.g__law_draw c.f__law_draw.kp c.b__law_draw <| .cons <| .var 0 rfl <| .cons <| .int <| .nil <| t_draw c hn (by decide) (by decide) kn (by omega) fun way k1 w0 w1 kn1 => ?_
  refine .cons <| .callTy c.n_dict rfl <| .cons <| .listItems rfl c.n_list <| .var 1 rfl ⟨wO v, rfl, .nil <| VC.dictPM rfl fun p hp => ?_⟩
  rw [w_merge]
  obtain ⟨pa, pl, hp⟩ := dk_none hp
  rw [dk_mset pa pl]
  have atp : ∀ k' kvs, dkM a l k' (mset M p (.dic kvs)) p = some (.dic kvs) := fun k' kvs => by rw [dk_else pa pl, mset_same]
  have setp : ∀ k' kvs kvs', mset (dkM a l k' (mset M p (.dic kvs))) p (.dic kvs') = dkM a l k' (mset M p (.dic kvs')) := fun k' kvs kvs' => by rw [dk_mset pa pl, mset_mset]
  have delp : ∀ k' kvs, mdel (dkM a l k' (mset M p (.dic kvs))) p = dkM a l k' M := fun k' kvs => by rw [dk_mdel pa pl, mdel_mset hp]
  refine .nil ⟨_, _, rfl, ?_⟩
  -- the plain end
  have fin : ∀ (v' : LW) (k' : Dk) (x5 x6 : Option D), LawDr v' t → DkN k' (n + 10) → WSs (cxOf (L2.CX P81 w) P81 w K mg base n__law_changed "_law_changed" (defScope (top 58)) (ga K "_law_changed") cdv A outer s H (XEnd K H F (dkM a l k M) noX)) ((defBody (top 58)).drop 2)
      [some (.ref a), some (wD v), some (.str t), some (.int way), some (.ref p), x5, x6, none] (dkM a l k' (mset M p (.dic (wO v')))) { nx := fun _ M' => Q .non M', rt := Q } := by
    intro v' k' x5 x6 ok' kn'
    refine .freezeD 4 rfl (atp _ _) ?_
    rw [delp]
    exact .one <| .ret <| .tuple <| .cons <| .var 4 rfl <| .cons <| .var 2 rfl <| .nil ⟨by show 2 ≤ sizeLine; decide, h v' t k' ok' kn'⟩
  -- ways
  refine .cons <| .ite <| .cmp <| .var 3 rfl <| .int <| VO.eqI ⟨_, rfl, fun z0 => ?_, fun z0 => ?_⟩
  · -- another end
    refine .cons <| .setN 5 s__law_changed.nd <| .call hr1 c.g__law_draw c.f__law_draw.kp c.b__law_draw <| .cons <| .var 0 rfl <| .cons <| .callB c.n_len rfl <| .cons <| .ix <| .var 1 rfl <| .str <| VI.get hu1 (sk_str _) w_look2 <| .nil <| VC.len (n := v.ends.length) (by simp [lenD]) <| .nil <| t_draw c hn (by omega) (by omega) kn1 (by omega) fun q k2 q0 q1 kn2 => ?_
    obtain ⟨q, rfl⟩ := Int.eq_ofNat_of_zero_le q0
    refine .one <| .asg <| .bin <| .bin <| .slice <| .ix <| .var 1 rfl <| .str <| VI.get hu1 (sk_str _) w_look2 <| .none <| .some <| .var 5 rfl ⟨_, rfl, VS.tup ?_⟩
    rw [cut_take]
    refine .tuple <| .cons <| .call hr1 c.g__law_draw c.f__law_draw.kp c.b__law_draw <| .cons <| .var 0 rfl <| .cons <| .ix <| .var 1 rfl <| .str <| VI.get hu1 (sk_str _) w_look1 <| .nil <| t_draw c hn (by omega) (by omega) kn2 (by omega) fun x k3 x0 x1 kn3 => .nil ⟨by show 1 ≤ sizeLine; decide, VO.catT (by simp; omega) ?_⟩
    refine .slice <| .ix <| .var 1 rfl <| .str <| VI.get hu1 (sk_str _) w_look2 <| .some <| .bin <| .var 5 rfl <| .int <| VO.add ⟨_, rfl, .none <| VS.tup ?_⟩
    rw [show ((q : Int) + 1) = ((q + 1 : Nat) : Int) by omega, cut_drop]
    refine VO.catT (by simp; omega) <| .sub <| .var 4 rfl <| .str <| VT.dic hu1 (atp _ _) (sk_str _) (by show 3 < sizeLine; decide) ?_
    rw [setp]
    have e2 : (v.ends.map D.int).take q ++ [.int x] ++ (v.ends.map D.int).drop (q + 1) = (v.ends.take q ++ [x] ++ v.ends.drop (q + 1)).map D.int := by simp
    rw [e2, w_put2 (es := v.ends.take q ++ [x] ++ v.ends.drop (q + 1))]
    refine fin _ _ _ _ ⟨law_ends ok.w (by simp) (by simp; omega) fun i hi => ?_, ok.t0, ok.t1, ok.tr⟩ (kn3.mono (by omega))
    simp only [List.mem_append, List.mem_singleton] at hi
    rcases hi with (hi | rfl) | hi
    · exact eb i (List.mem_of_mem_take hi)
    · exact ⟨x0, x1⟩
    · exact eb i (List.mem_of_mem_drop hi)
  refine .one <| .ite <| .cmp <| .var 3 rfl <| .int <| VO.eqI ⟨_, rfl, fun z1 => ?_, fun z1 => ?_⟩
  · -- another lift
    refine .cons <| .setN 5 s__law_changed.nd <| .call hr1 c.g__law_draw c.f__law_draw.kp c.b__law_draw <| .cons <| .var 0 rfl <| .cons <| .callB c.n_len rfl <| .cons <| .ix <| .var 1 rfl <| .str <| VI.get hu1 (sk_str _) w_look3 <| .nil <| VC.len (n := v.lifts.length) (by simp [lenD]) <| .nil <| t_draw c hn (by omega) (by omega) kn1 (by omega) fun q k2 q0 q1 kn2 => ?_
    obtain ⟨q, rfl⟩ := Int.eq_ofNat_of_zero_le q0
    refine .cons <| .setN 6 s__law_changed.nd <| .callTy c.n_tuple rfl <| .cons ?_
    refine WE.lc1 7 [("_law_n", 7)] rfl s__law_changed.nd (show BlkOk n__law_changed (defScope (top 58)) _ _ from ⟨rfl, by decide +kernel, by decide +kernel, by decide +kernel, by decide +kernel⟩) ?_
    refine WI.range1 c.n_range <| .ix <| .var 1 rfl <| .str <| VI.get hu1 (sk_str _) w_look1 ⟨_, rfl, by omega, by omega, ?_⟩
    unfold rng
    refine CompT.stepIf (fun (i : Nat) => D.int (0 + (i : Int))) (fun pre acc M' => ∃ (xs : List Int) (k' : Dk), acc = xs.map D.int ∧ xs.Sublist (pre.map fun (i : Nat) => (i : Int)) ∧ DkN k' (n + 2 + pre.length) ∧ M' = dkM a l k' (mset M p (.dic (wO v)))) ?_ (by rw [List.length_range]; omega) ?_ ⟨[], k2, rfl, by simp, kn2, rfl⟩
    · rintro pre j post acc M' e2 ⟨xs, k', rfl, sl, kn', rfl⟩
      have hpl : pre.length < 4 := by
        have := congrArg List.length e2
        simp at this; omega
      refine ⟨_, rfl, fun b M1 => ∃ k', DkN k' (n + 2 + pre.length + 1) ∧ M1 = dkM a l k' (mset M p (.dic (wO v))), fun s H C cl fp => ?_, ?_, ?_⟩
      · exact .cmp <| .call hr1 c.g__law_draw c.f__law_draw.kp c.b__law_draw <| .cons <| .var 0 rfl <| .cons <| .int <| .nil <| t_draw c hn (by decide) (by decide) kn' (by omega) fun v k4 v0 v1 kn4 => .int <| VO.eqI ⟨_, rfl, k4, kn4, rfl⟩
      · rintro M1 ⟨k4, kn4, rfl⟩
        exact ⟨xs, k4, rfl, by rw [List.map_append]; exact sl.trans (List.sublist_append_left ..), by rw [List.length_append]; exact kn4, rfl⟩
      · rintro M1 ⟨k4, kn4, rfl⟩
        exact fun s H C cl fp => .var 7 rfl ⟨xs ++ [(j : Int)], k4, by rw [List.map_append, Int.zero_add]; rfl, by rw [List.map_append]; exact sl.append (List.Sublist.refl _), by rw [List.length_append]; exact kn4, rfl⟩
    rintro acc M' ⟨xs, k3, rfl, sl, kn3, rfl⟩
    rw [List.length_range] at kn3
    have hrl : ((List.range v.sh.toNat).map fun (i : Nat) => (i : Int)).Pairwise (· < ·) := List.Pairwise.map (fun (i : Nat) => (i : Int)) (fun a b h => by omega) List.pairwise_lt_range
    have hxl : xs.Pairwise (· < ·) := hrl.sublist sl
    have hxb : ∀ i ∈ xs, 0 ≤ i ∧ i < v.sh := fun y hy => by
      obtain ⟨j, hj, rfl⟩ := List.mem_map.mp (sl.subset hy)
      have := List.mem_range.mp hj
      omega
    have hxn : xs.length ≤ 4 := nodup_len 4 xs (hxl.imp fun h => by omega) fun x hx => by have := hxb x hx; omega
    refine .nil <| VC.tupleL ?_
    refine .one <| .asg <| .bin <| .bin <| .slice <| .ix <| .var 1 rfl <| .str <| VI.get hu1 (sk_str _) w_look3 <| .none <| .some <| .var 5 rfl ⟨_, rfl, VS.tup ?_⟩
    rw [cut_take]
    refine .tuple <| .cons <| .var 6 rfl <| .nil ⟨by show 1 ≤ sizeLine; decide, VO.catT (by simp; omega) ?_⟩
    refine .slice <| .ix <| .var 1 rfl <| .str <| VI.get hu1 (sk_str _) w_look3 <| .some <| .bin <| .var 5 rfl <| .int <| VO.add ⟨_, rfl, .none <| VS.tup ?_⟩
    rw [show ((q : Int) + 1) = ((q + 1 : Nat) : Int) by omega, cut_drop]
    refine VO.catT (by simp; omega) <| .sub <| .var 4 rfl <| .str <| VT.dic hu1 (atp _ _) (sk_str _) (by show 3 < sizeLine; decide) ?_
    rw [setp]
    have e2 : (v.lifts.map tupI).take q ++ [.tup (xs.map D.int)] ++ (v.lifts.map tupI).drop (q + 1) = (v.lifts.take q ++ [xs] ++ v.lifts.drop (q + 1)).map tupI := by simp
    rw [e2, w_put3 (ls := v.lifts.take q ++ [xs] ++ v.lifts.drop (q + 1))]
    have hlen : (v.lifts.take q ++ [xs] ++ v.lifts.drop (q + 1)).length = v.lifts.length := by simp; omega
    refine fin _ _ _ _ ⟨law_lifts ok.w (by simp) (by omega) fun i hi => ?_, ok.t0, ok.t1, by rw [okTr_lifts hlen]; exact ok.tr⟩ (kn3.mono (by omega))
    simp only [List.mem_append, List.mem_singleton] at hi
    rcases hi with (hi | rfl) | hi
    · exact lb i (List.mem_of_mem_take hi)
    · exact ⟨by omega, hxb, rise_of hxl⟩
    · exact lb i (List.mem_of_mem_drop hi)
  refine .one <| .ite <| .cmp <| .var 3 rfl <| .int <| VO.eqI ⟨_, rfl, fun z2 => ?_, fun z2 => ?_⟩
  · -- one end more
    refine .one <| .asg <| .bin <| .ix <| .var 1 rfl <| .str <| VI.get hu1 (sk_str _) w_look2 <| .tuple <| .cons <| .call hr1 c.g__law_draw c.f__law_draw.kp c.b__law_draw <| .cons <| .var 0 rfl <| .cons <| .ix <| .var 1 rfl <| .str <| VI.get hu1 (sk_str _) w_look1 <| .nil <| t_draw c hn (by omega) (by omega) kn1 (by omega) fun x k3 x0 x1 kn3 => .nil ⟨by show 1 ≤ sizeLine; decide, VO.catT (by simp; omega) ?_⟩
    refine .sub <| .var 4 rfl <| .str <| VT.dic hu1 (atp _ _) (sk_str _) (by show 3 < sizeLine; decide) ?_
    rw [setp]
    have e2 : v.ends.map D.int ++ [.int x] = (v.ends ++ [x]).map D.int := by simp
    rw [e2, w_put2 (es := v.ends ++ [x])]
    refine fin _ _ _ _ ⟨law_ends ok.w (by simp) (by simp; omega) fun i hi => ?_, ok.t0, ok.t1, ok.tr⟩ (kn3.mono (by omega))
    rcases List.mem_append.mp hi with hi | hi
    · exact eb i hi
    · rw [List.mem_singleton.mp hi]; exact ⟨x0, x1⟩
  refine .one <| .ite <| .cmp <| .var 3 rfl <| .int <| VO.eqI ⟨_, rfl, fun z3 => ?_, fun z3 => ?_⟩
  · -- longer
    refine .freezeD 4 rfl (atp _ _) ?_
    rw [delp]
    refine .one <| .ret <| .tuple <| .cons <| .var 4 rfl <| .cons <| .bin <| .var 2 rfl <| .call hr c.g__law_text c.f__law_text.kp c.b__law_text <| .cons <| .var 0 rfl <| .cons <| .var 1 rfl <| .cons <| .int <| .nil <| t_law_text c ok.w.ok hn kn1 (m := 2) (by omega) (by omega) (by omega) fun u k3 u0 u1 u2 kn3 => ?_
    refine VO.addS (by omega) <| .nil ⟨by show 2 ≤ sizeLine; decide, ?_⟩
    exact h v (t ++ u) k3 ⟨ok.w, by simp [ok.t0], by simp; omega, okTr_app ok.tr u2⟩ (kn3.mono (by omega))
  refine .one <| .ite <| WT.imp (R := fun b M' => (b = true → 1 < t.length) ∧ M' = dkM a l k1 (mset M p (.dic (wO v)))) ?_ ?_
  · refine .ww <| .and <| .cmp <| .var 3 rfl <| .int <| VO.eqI ⟨_, rfl, fun _ => ⟨fun z => (nomatch z), rfl⟩, fun _ => .and1 <| .cmp <| .callB c.n_len rfl <| .cons <| .var 2 rfl <| .nil <| VC.len (n := t.length) (by simp [lenD]; omega) <| .int <| VO.gt ⟨_, rfl, fun z => ?_, rfl⟩⟩
    have := of_decide_eq_true z
    omega
  rintro b M' ⟨hb, rfl⟩
  refine ⟨fun z => ?_, fun z => ?_⟩
  · -- shorter
    refine .freezeD 4 rfl (atp _ _) ?_
    rw [delp]
    refine .one <| .ret <| .tuple <| .cons <| .var 4 rfl <| .cons <| .slice <| .var 2 rfl <| .none <| .some <| .neg <| .int ⟨_, rfl, _, rfl, VS.str (by omega) ?_⟩
    rw [cut_last]
    have z5 := hb z
    refine .nil ⟨by show 2 ≤ sizeLine; decide, h v t.dropLast k1 ⟨ok.w, ?_, by simp; omega, okTr_sub ok.tr fun c hc => (List.dropLast_sublist t).subset hc⟩ (kn1.mono (by omega))⟩
    intro e
    have := congrArg List.length e
    simp at this; omega
  · -- another letter
    refine .cons <| .setN 5 s__law_changed.nd <| .call hr1 c.g__law_draw c.f__law_draw.kp c.b__law_draw <| .cons <| .var 0 rfl <| .cons <| .callB c.n_len rfl <| .cons <| .var 2 rfl <| .nil <| VC.len (n := t.length) (by simp [lenD]; omega) <| .nil <| t_draw c hn (by omega) (by omega) kn1 (by omega) fun q k2 q0 q1 kn2 => ?_
    obtain ⟨q, rfl⟩ := Int.eq_ofNat_of_zero_le q0
    refine .freezeD 4 rfl (atp _ _) ?_
    rw [delp]
    refine .one <| .ret <| .tuple <| .cons <| .var 4 rfl <| .cons <| .bin <| .bin <| .slice <| .var 2 rfl <| .none <| .some <| .var 5 rfl ⟨_, rfl, VS.str (by omega) ?_⟩
    rw [cut_take]
    refine .call hr c.g__law_text c.f__law_text.kp c.b__law_text <| .cons <| .var 0 rfl <| .cons <| .var 1 rfl <| .cons <| .int <| .nil <| t_law_text c ok.w.ok hn kn2 (m := 1) (by omega) (by omega) (by omega) fun u k3 u0 u1 u2 kn3 => ?_
    have ul : (t.take q).length ≤ t.length := by rw [List.length_take]; omega
    have dl : (t.drop (q + 1)).length ≤ t.length := by rw [List.length_drop]; omega
    refine VO.addS (by omega) <| .slice <| .var 2 rfl <| .some <| .bin <| .var 5 rfl <| .int <| VO.add ⟨_, rfl, .none <| VS.str (by omega) ?_⟩
    rw [show ((q : Int) + 1) = ((q + 1 : Nat) : Int) by omega, cut_drop]
    refine VO.addS (by rw [List.length_append]; omega) <| .nil ⟨by show 2 ≤ sizeLine; decide, h v (t.take q ++ u ++ t.drop (q + 1)) k3 ⟨ok.w, by simp [u0], by simp; omega, ?_⟩ (kn3.mono (by omega))⟩
    exact okTr_app (okTr_app (okTr_sub ok.tr fun c hc => List.mem_of_mem_take hc) u2) (okTr_sub ok.tr fun c hc => List.mem_of_mem_drop hc)
end
end K81
end
section
set_option maxRecDepth 100000
set_option maxHeartbeats 0
/-! K81W: whether first crossings are right. -/
namespace K81
open PySem PySem.Spec PyProof.Rows L2 TL
open He (ga ma fAd)
theorem rep_nat {i : Nat} (h : i < 200) : RepOk 20 0 (.int (i : Nat)) := by
  have h1 : ∀ i, i < 200 → isR (.int (i : Nat)) = true ∧ (rpy (.int (i : Nat))).leavesShort 600 = true ∧ (rpy (.int (i : Nat))).weight ≤ 20 ∧ (rpy (.int (i : Nat))).depth ≤ 0 := by decide +kernel
  obtain ⟨a, b, c, d⟩ := h1 i h
  exact ⟨a, b, c, d⟩
theorem rep_opt {a b : List (List Nat)} {n m : Nat} (a9 : a.length ≤ 100) (b9 : b.length ≤ 100) (n9 : n ≤ 100) (m9 : m ≤ 100) {r : Option (Nat × Nat)} (h : IsFirst a b n m r) : RepOk 60 1 (optD r) := by
  cases r with
  | none => exact RepOk.non.mono (by omega) (by omega)
  | some q =>
    obtain ⟨p, e⟩ := q
    have hp : p < 200 := by
      refine Nat.lt_of_not_le fun hp => h.1 ?_
      rw [sign_far (.inl (by omega)), sign_far (.inl (by omega))]
    have he : e < 200 := by
      refine Nat.lt_of_not_le fun he => h.1 ?_
      rw [sign_far (.inr (by omega)), sign_far (.inr (by omega))]
    exact (RepOk.tup (n := 20) (p := 0) fun d hd => by
      simp only [List.mem_cons, List.not_mem_nil, or_false] at hd
      rcases hd with rfl | rfl
      · exact rep_nat hp
      · exact rep_nat he).mono (by simp) (by omega)
theorem isNon_opt {a b : List (List Nat)} {n m : Nat} (ca : CW a n) (cb : CW b m) (hnm : a = b → n = m) {r : Option (Nat × Nat)} (h : IsFirst a b n m r) : TL.isNon (optD r) = decide (a = b) := by
  cases r with
  | none =>
    have := first_none ca cb h
    simp [optD, TL.isNon, this]
  | some q =>
    have : ¬ a = b := fun e => by
      have en := hnm e
      subst e en
      exact absurd (first_same h) (by simp)
    simp [optD, TL.isNon, this]
theorem cw_same {a : List (List Nat)} {n m : Nat} (c1 : CW a n) (c2 : CW a m) : n = m := by
  cases e : a with
  | nil => exact absurd e c1.r0
  | cons x xs =>
    have hx : x ∈ a := by rw [e]; exact List.mem_cons_self ..
    rw [← (c1.r2 x hx).1, (c2.r2 x hx).1]
def drD (q : LW × List Nat) : D := .tup [wD q.1, .str q.2]
section
variable {w : World} {K : PySem.W.Frag} {mg : Str → Option Value} {base : Heap} {M : Mp} {Q : DQ}
theorem t_law_crossing_right (c : E81 w K mg base) {v : LW} (ok : LawW v) (e7 : v.ends.length ≤ 7) {a l : Addr} {k : Dk} (hn : l ≠ a) {n : Nat} (kn : DkN k n) (hd : n < 700000)
    (h : ∀ k', DkN k' (n + 300) → Q (.bl true) (dkM a l k' M)) :
    TFn P81 w K mg base 8 (ga K "_law_crossing_right") (fdOf K ("_law_crossing_right", none)) ["_law_deck_here", "_law_w"] [.ref a, wD v] (dkM a l k M) Q := by
  refine TFn.of c.f__law_crossing_right s__law_crossing_right rfl fun cdv A outer s H F hr => ?_
  have hs := sizeLine_eq
  have hr4 := hr.mono (j := 4) (by omega)
  refine .cons <| .setN 2 s__law_crossing_right.nd <| .call hr4 c.g__law_text c.f__law_text.kp c.b__law_text <| .cons <| .var 0 rfl <| .cons <| .var 1 rfl <| .cons <| .int <| .nil <| t_law_text c ok.ok hn kn (m := 10) (by omega) (by omega) (by omega) fun t k1 t0 t1 t2 kn1 => ?_
  have dv : LawDr v t := ⟨ok, t0, by omega, t2⟩
  refine .cons <| .setN 3 s__law_crossing_right.nd <| .call (hr.mono (j := 3) (by omega)) c.g__law_loom c.f__law_loom.kp c.b__law_loom <| .cons <| .var 0 rfl <| .nil <| t_law_loom c hn kn1 (by omega) fun u k2 uok u7 kn2 => ?_
  refine .cons <| .setN 4 s__law_crossing_right.nd <| .bin <| .list <| .cons <| .tuple <| .cons <| .var 3 rfl <| .cons <| .call hr4 c.g__law_text c.f__law_text.kp c.b__law_text <| .cons <| .var 0 rfl <| .cons <| .var 3 rfl <| .cons <| .int <| .nil <| t_law_text c uok.ok hn kn2 (m := 10) (by omega) (by omega) (by omega) fun x k3 x0 x1 x2 kn3 => ?_
  have du : LawDr u x := ⟨uok, x0, by omega, x2⟩
  refine .nil ⟨by show 2 ≤ sizeLine; decide, .cons <| .tuple <| .cons <| .var 1 rfl <| .cons <| .var 2 rfl <| .nil ⟨by show 2 ≤ sizeLine; decide, .nil ⟨by show 2 ≤ sizeLine; decide, ?_⟩⟩⟩
  refine WE.lc1 5 [("_law_k", 5)] rfl s__law_crossing_right.nd (show BlkOk n__law_crossing_right (defScope (top 59)) _ _ from ⟨rfl, by decide +kernel, by decide +kernel, by decide +kernel, by decide +kernel⟩) ?_
  refine WI.range1 c.n_range <| .int ⟨_, rfl, by decide, by decide, ?_⟩
  unfold rng
  refine CompT.step (fun (i : Nat) => D.int (0 + (i : Int))) (fun pre acc M' => ∃ (qs : List (LW × List Nat)) (k' : Dk), acc = qs.map drD ∧ qs.length = pre.length ∧ (∀ q ∈ qs, LawDr q.1 q.2) ∧ DkN k' (n + 150 + 10 * pre.length) ∧ M' = dkM a l k' M) ?_ (by rw [List.length_range]; show 4 ≤ sizeLine; decide) ?_ ⟨[], k3, rfl, rfl, by simp, kn3.mono (by simp only [List.length_nil]; omega), rfl⟩
  · rintro pre i post acc M' e2 ⟨qs, k', rfl, ql, qd, kn', rfl⟩
    have hpl : pre.length < 4 := by
      have := congrArg List.length e2
      simp at this; omega
    refine ⟨_, rfl, fun s H C cl fp => .call (hr.mono (j := 5) (by omega)) c.g__law_changed c.f__law_changed.kp c.b__law_changed <| .cons <| .var 0 rfl <| .cons <| .var 1 rfl <| .cons <| .var 2 rfl <| .nil <| t_law_changed c dv e7 (by omega) hn kn' (by omega) fun v' t' k4 d' kn4 => ?_⟩
    refine ⟨qs ++ [(v', t')], k4, by rw [List.map_append]; rfl, by simp [ql], fun q hq => ?_, by rw [List.length_append]; exact kn4.mono (by simp; omega), rfl⟩
    rcases List.mem_append.mp hq with hq | hq
    · exact qd q hq
    · rw [List.mem_singleton.mp hq]; exact d'
  rintro acc M' ⟨qs, k4, rfl, ql, qd, kn4, rfl⟩
  have qsl : qs.length = 4 := by simpa using ql
  refine VO.catL (by simp; omega) ?_
  have e3 : [D.tup [wD u, .str x], .tup [wD v, .str t]] ++ qs.map drD = ((u, x) :: (v, t) :: qs).map drD := rfl
  rw [e3]
  have all : ∀ q ∈ ((u, x) :: (v, t) :: qs), LawDr q.1 q.2 := fun q hq => by
    rcases List.mem_cons.mp hq with rfl | hq
    · exact du
    · rcases List.mem_cons.mp hq with rfl | hq
      · exact dv
      · exact qd q hq
  refine .cons <| .for (L2.passes_of rfl) rfl ?_
  refine WI.list <| .var 4 rfl ⟨_, rfl, ?_⟩
  refine ForT.map drD (fun pre ρ M2 => (∃ x6 x7 x8 x9 x10 x11, ρ = [some (.ref a), some (wD v), some (.str t), some (wD u), some (.lst (((u, x) :: (v, t) :: qs).map drD)), none, x6, x7, x8, x9, x10, x11]) ∧ M2 = dkM a l k4 M) ?_ ?_ ⟨⟨none, none, none, none, none, none, rfl⟩, rfl⟩
  · rintro pre q post ρ M2 el ⟨⟨x6, x7, x8, x9, x10, x11, rfl⟩, rfl⟩
    obtain ⟨v', t'⟩ := q
    have dq : LawDr v' t' := all (v', t') (by rw [el]; simp)
    have ca := dv.dr.cw
    have cb := dq.dr.cw
    have a9 : (rowsOf v t).length ≤ 100 := by have := dv.t1; simp [rowsOf]; omega
    have b9 : (rowsOf v' t').length ≤ 100 := by have := dq.t1; simp [rowsOf]; omega
    have n9 : v.ends.length ≤ 100 := by omega
    have m9 : v'.ends.length ≤ 100 := by have := dq.w.e9; omega
    have lo : Lo (cxOf (L2.CX P81 w) P81 w K mg base n__law_crossing_right "_law_crossing_right" (defScope (top 59)) (ga K "_law_crossing_right") cdv A outer s H (XEnd K H F (dkM a l k M) noX)) 7 := ⟨hr, rfl⟩
    refine .tup rfl <| .cons <| .nameN 6 s__law_crossing_right.nd <| .cons <| .nameN 7 s__law_crossing_right.nd <| .nil ?_
    refine .cons <| .setN 8 s__law_crossing_right.nd <| .call (hr.mono (j := 1) (by omega)) c.g__law_first c.f__law_first.kp c.b__law_first <| .cons <| .call (hr.mono (j := 1) (by omega)) c.g__law_woven c.f__law_woven.kp c.b__law_woven <| .cons <| .var 1 rfl <| .cons <| .var 2 rfl <| .nil <| t_law_woven c dv.w.ok (by omega) dv.tr ?_
    refine .cons <| .call (hr.mono (j := 1) (by omega)) c.g__law_woven c.f__law_woven.kp c.b__law_woven <| .cons <| .var 6 rfl <| .cons <| .var 7 rfl <| .nil <| t_law_woven c dq.w.ok (by show t'.length ≤ 1000; have := dq.t1; omega) dq.tr <| .nil <| t_law_first c ca cb a9 b9 n9 m9 fun r hf => ?_
    refine .cons <| .par 9 10 rfl s__law_crossing_right.nd <| .cons <| .tuple <| .cons <| .call (hr.mono (j := 6) (by omega)) c.g__law_code c.f__law_code.kp c.b__law_code <| .cons <| .var 1 rfl <| .nil <| t_law_code c dv.w.ok w_look1 w_look2 w_look3 <| .cons <| .var 2 rfl <| .nil ⟨by show 2 ≤ sizeLine; decide, ?_⟩
    refine .cons <| .tuple <| .cons <| .call (hr.mono (j := 6) (by omega)) c.g__law_code c.f__law_code.kp c.b__law_code <| .cons <| .var 6 rfl <| .nil <| t_law_code c dq.w.ok w_look1 w_look2 w_look3 <| .cons <| .var 7 rfl <| .nil ⟨by show 2 ≤ sizeLine; decide, .nil ⟨_, _, rfl, ?_⟩⟩
    refine .cons <| .setN 11 s__law_crossing_right.nd <| .list <| .cons <| .call hr c.g_first_crossing c.f_first_crossing.kp c.b_first_crossing <| .cons <| .var 9 rfl <| .cons <| .var 10 rfl <| .nil <| t_first_crossing c dv.dr dq.dr fun r1 hf1 => ?_
    obtain rfl := first_one hf hf1
    refine .cons <| WE.callKw true hr c.g_first_crossing c.f_first_crossing.kp c.k_first rfl <| .cons <| .var 10 rfl <| .cons <| .var 9 rfl <| .nil <| t_first_crossing c dv.dr dq.dr fun r2 hf2 => ?_
    obtain rfl := first_one hf hf2
    refine .cons <| .call hr c.g_first_crossing c.f_first_crossing.kp c.b_first_crossing <| .cons <| .var 10 rfl <| .cons <| .var 9 rfl <| .nil <| t_first_crossing c dq.dr dv.dr fun r3 hf3 => ?_
    obtain rfl := first_one hf (first_symm hf3)
    refine .nil ⟨by show 3 ≤ sizeLine; decide, ?_⟩
    have ro := rep_opt a9 b9 n9 m9 hf
    have rl : RepOk 200 2 (.lst [optD r, optD r, optD r]) := (RepOk.lst (n := 60) (p := 1) fun d hd => by
      simp only [List.mem_cons, List.not_mem_nil, or_false, or_self] at hd
      rw [hd]; exact ro).mono (by simp) (by omega)
    refine .skip <| .ww <| .or <| .cmp <| .callB c.n_repr rfl <| .cons <| .var 11 rfl <| .nil <| VC.reprO lo c.sys rl (by omega) (by omega) <| .callB c.n_repr rfl <| .cons <| .bin <| .listM <| .cons <| .var 8 rfl <| .nil ⟨by show 1 ≤ sizeLine; decide, fun p hp => ?_⟩
    refine .int <| VO.repM mset_same (by decide) (by decide) (by show 1 * 3 ≤ sizeLine; decide) <| .nil ?_
    rw [mdel_mset hp]
    refine VC.reprO lo c.sys (d := .lst [optD r, optD r, optD r]) rl (by omega) (by omega) <| VO.neS ⟨_, rfl, by simp, fun _ => ?_⟩
    refine .or1 <| .cmp <| .cmp <| .var 8 rfl <| .non <| VO.isN <| .cmp <| .call (hr.mono (j := 6) (by omega)) c.g_woven c.f_woven.kp c.b_woven <| .cons <| .ix <| .var 9 rfl <| .int <| VI.tup rfl <| .cons <| .ix <| .var 9 rfl <| .int <| VI.tup rfl <| .nil <| t_woven c dv.dr.ok dv.dr.t0 dv.dr.t1 dv.dr.tr ?_
    refine .call (hr.mono (j := 6) (by omega)) c.g_woven c.f_woven.kp c.b_woven <| .cons <| .ix <| .var 10 rfl <| .int <| VI.tup rfl <| .cons <| .ix <| .var 10 rfl <| .int <| VI.tup rfl <| .nil <| t_woven c dq.dr.ok dq.dr.t0 dq.dr.t1 dq.dr.tr ?_
    refine VO.eqOwn (hr.mono (j := 1) (by omega)) c.sp_Cloth_eq.1 c.sp_Cloth_eq.2 c.b_Cloth_eq <| t_Cloth_eq c ca cb ⟨_, rfl, ?_⟩
    refine VO.neB ⟨_, rfl, ?_, .done ⟨⟨_, _, _, _, _, _, rfl⟩, rfl⟩⟩
    rw [isNon_opt ca cb (fun e => by have cb' := cb; rw [← show rowsOf v t = rowsOf v' t' from e] at cb'; exact cw_same ca cb') hf]
    by_cases hP : t.map (rowOf v) = t'.map (rowOf v')
    · have hP' : rowsOf v t = rowsOf v' t' := hP
      simp [hP, hP']
    · have hP' : ¬ rowsOf v t = rowsOf v' t' := hP
      simp [hP, hP']
  · rintro ρ M2 ⟨⟨x6, x7, x8, x9, x10, x11, rfl⟩, rfl⟩
    exact ⟨_, Le.refl _, .one <| .ret <| .bl <| h k4 (kn4.mono (by simp))⟩
end
end K81
end
section
set_option maxRecDepth 100000
set_option maxHeartbeats 0
/-! K81X: whether letters are led right. -/
namespace K81
open PySem PySem.Spec PyProof.Rows L2 TL
open He (ga ma fAd)
def d1 (c : Nat) : D := .str [c]
theorem shp_d1 {cs : List Nat} (h : ∀ c ∈ cs, c < 128) : shp (.lst (cs.map d1)) = true := by
  refine shp_of (areS_of fun d hd => ?_) ?_
  · obtain ⟨c, hc, rfl⟩ := List.mem_map.mp hd
    have := h c hc
    show PyData.strOk ⟨[c].toArray⟩ = true
    unfold PyData.strOk
    simp only [List.all_toArray, List.all_eq_true, decide_eq_true_eq]
    intro x hx
    rw [List.mem_singleton.mp hx]
    omega
  · have : deps (cs.map d1) ≤ 0 := deps_le fun d hd => by
      obtain ⟨c, hc, rfl⟩ := List.mem_map.mp hd
      exact Nat.le_refl 0
    show deps (cs.map d1) + 1 ≤ 64
    omega
theorem okTr_filter {v : LW} {t : List Nat} : okTr v t = decide (t.filter (fun c => !decide (c ∈ alpha.take v.lifts.length)) = []) := by
  unfold okTr
  by_cases h : t.filter (fun c => !decide (c ∈ alpha.take v.lifts.length)) = []
  · rw [decide_eq_true h]
    rw [List.filter_eq_nil_iff] at h
    exact List.all_eq_true.mpr fun c hc => by simpa using h c hc
  · rw [decide_eq_false h]
    rw [List.filter_eq_nil_iff] at h
    rw [List.all_eq_false]
    refine Classical.byContradiction fun hn => h fun c hc => ?_
    intro hc2
    exact hn ⟨c, hc, by simpa using hc2⟩
theorem led_small {v : LW} (l1 : v.lifts.length ≤ 26) {t : List Nat} (ht : okTr v t = true) : ∀ c ∈ ledT v t, c < 16 ^ 8 := fun c hc => by
  obtain ⟨x, hx, rfl⟩ := List.mem_map.mp hc
  obtain ⟨i, hi, rfl⟩ := tr_get l1 ht hx
  rw [Nat.add_sub_cancel_left, List.getD_eq_getElem?_getD, List.getElem?_eq_getElem (by rw [redL_len]; exact hi), Option.getD_some]
  exact redL_small l1 _ (List.getElem_mem _)
theorem told_rep {v : LW} (l1 : v.lifts.length ≤ 26) {d : D} (h : AskOk v d) : RepOk 2000 5 (toldD v d) := by
  have bad : RepOk 2000 5 (.lst [.str (lit "bad"), d, .bl true]) := (RepOk.lst (n := 500) (p := 3) fun x hx => by
    simp only [List.mem_cons, List.not_mem_nil, or_false] at hx
    rcases hx with rfl | rfl | rfl
    · exact (RepOk.str (x := lit "bad") (by decide +kernel)).mono (by decide +kernel) (by omega)
    · exact h.r
    · exact (RepOk.bl true).mono (by omega) (by omega)).mono (by simp) (by omega)
  unfold toldD
  split
  · rename_i t
    split
    · rename_i ht
      exact (RepOk.str (led_small l1 ht)).mono (by have := (h.s t rfl).1; simp [ledT]; omega) (by omega)
    · exact bad
  · exact bad
section
variable {w : World} {K : PySem.W.Frag} {mg : Str → Option Value} {base : Heap} {M : Mp} {Q : DQ}
theorem t_woven2 (c : E81 w K mg base) {v : LW} {t : List Nat} (d : DrOk v t) (h : Q (clothD K (rowsOf v t)) M) : TFn P81 w K mg base 6 (ga K "woven") (fdOf K ("woven", none)) ["loom", "treadling"] [loomD K v, .str t] M Q := t_woven c d.ok d.t0 d.t1 d.tr h
theorem lit_str (s : String) (h : (lit s).all (fun c => decide (c < 128)) = true) : ∀ c ∈ lit s, c < 128 := fun c hc => of_decide_eq_true (List.all_eq_true.mp h c hc)
theorem t_law_letters_right (c : E81 w K mg base) {v : LW} (ok : LawW v) {a l : Addr} {k : Dk} (hn : l ≠ a) {n : Nat} (kn : DkN k n) (hd : n < 700000)
    (h : ∀ k', DkN k' (n + 150) → Q (.bl true) (dkM a l k' M)) :
    TFn P81 w K mg base 9 (ga K "_law_letters_right") (fdOf K ("_law_letters_right", none)) ["_law_deck_here", "_law_w", "_law_code_here"] [.ref a, wD v, loomD K v] (dkM a l k M) Q := by
  refine TFn.of c.f__law_letters_right s__law_letters_right rfl fun cdv A outer s H F hr => ?_
  have hs := sizeLine_eq
  have hu := hr.room.units
  have hu1 : (A.deeper (envOfC "_law_letters_right" (defScope (top 56)) s.heap.objs.size (ga K "_law_letters_right") cdv)).units + 1 < cLine := by omega
  have hr4 := hr.mono (j := 4) (by omega)
  have lo : Lo (cxOf (L2.CX P81 w) P81 w K mg base n__law_letters_right "_law_letters_right" (defScope (top 56)) (ga K "_law_letters_right") cdv A outer s H (XEnd K H F (dkM a l k M) noX)) 8 := ⟨hr, rfl⟩
  have rok := red_ok' ok
  have l1 := ok.ok.l1
  have al := alpha_len
  have atk : (alpha.take v.lifts.length).length ≤ 26 := by rw [List.length_take, al]; omega
  have asm : ∀ c ∈ alpha.take v.lifts.length, c < 128 := fun c hc => lit_str "abcdefghijklmnopqrstuvwxyz" (by decide +kernel) c (List.mem_of_mem_take hc)
  have tsm : ∀ {t : List Nat}, okTr v t = true → ∀ c ∈ t, c < 128 := fun {t} ht c hc => asm c (of_decide_eq_true (List.all_eq_true.mp ht c hc))
  refine .cons <| .asg <| .tuple <| .cons <| .call (hr.mono (j := 1) (by omega)) c.g__law_reduced c.f__law_reduced.kp c.b__law_reduced <| .cons <| .var 1 rfl <| .nil <| t_law_reduced c ok.ok <| .cons <| .str <| .nil ⟨by show 2 ≤ sizeLine; decide, .tup rfl <| .cons <| .nameN 3 s__law_letters_right.nd <| .cons <| .nameN 4 s__law_letters_right.nd <| .nil ?_⟩
  refine .cons <| .asg <| .tuple <| .cons <| WE.make c.mk_Loom (k := 4) (hr.mono (j := 5) (by omega)) c.g_Loom c.b_Loom_init <| .cons <| .ix <| .var 3 rfl <| .str <| VI.get hu1 (sk_str _) r_look1 <| .cons <| .ix <| .var 3 rfl <| .str <| VI.get hu1 (sk_str _) r_look2 <| .cons <| .ix <| .var 3 rfl <| .str <| VI.get hu1 (sk_str _) r_look3 <| .nil fun z hz => t_Loom_init c rok hz ?_
  refine .cons <| .slice <| .var 4 rfl <| .none <| .some <| .callB c.n_len rfl <| .cons <| .ix <| .var 1 rfl <| .str <| VI.get hu1 (sk_str _) w_look3 <| .nil <| VC.len (n := v.lifts.length) (by simp [lenD]) ⟨_, rfl, VS.str (by omega) ?_⟩
  rw [cut_take]
  refine .nil ⟨by show 2 ≤ sizeLine; decide, .tup rfl <| .cons <| .nameN 5 s__law_letters_right.nd <| .cons <| .nameN 6 s__law_letters_right.nd <| .nil ?_⟩
  refine .cons <| .setN 7 s__law_letters_right.nd <| .list <| .cons <| .str <| .cons <| .call hr4 c.g__law_text c.f__law_text.kp c.b__law_text <| .cons <| .var 0 rfl <| .cons <| .var 1 rfl <| .cons <| .int <| .nil <| t_law_text c ok.ok hn kn (m := 12) (by omega) (by omega) (by omega) fun t k1 t0 t1 t2 kn1 => ?_
  refine .cons <| .call hr4 c.g__law_text c.f__law_text.kp c.b__law_text <| .cons <| .var 0 rfl <| .cons <| .var 1 rfl <| .cons <| .int <| .nil <| t_law_text c ok.ok hn kn1 (m := 3) (by omega) (by omega) (by omega) fun u k2 u0 u1 u2 kn2 => ?_
  refine .cons <| .var 6 rfl <| .cons <| .non <| .cons <| .int <| .cons <| .tuple <| .nil ⟨by show 0 ≤ sizeLine; decide, .cons <| .list <| .cons <| .str <| .nil ⟨by show 1 ≤ sizeLine; decide, .cons <| .str <| .cons <| .str <| .cons <| .tuple <| .cons <| .str <| .nil ⟨by show 1 ≤ sizeLine; decide, .nil ⟨by show 11 ≤ sizeLine; decide, ?_⟩⟩⟩⟩
  generalize hxs : [D.str (lit ""), .str t, .str u, .str (alpha.take v.lifts.length), .non, .int 0, .tup [], .lst [.str (lit "a")], .str (lit "z"), .str (lit "A"), .tup [.str (lit "a")]] = xs
  have xl : xs.length = 11 := by rw [← hxs]; rfl
  have xok : ∀ d ∈ xs, AskOk v d := fun d hd => by
    rw [← hxs] at hd
    simp only [List.mem_cons, List.not_mem_nil, or_false] at hd
    rcases hd with rfl | rfl | rfl | rfl | rfl | rfl | rfl | rfl | rfl | rfl | rfl
    · exact ask_txt (by decide +kernel) (by decide +kernel)
    · exact ask_txt (by omega) (tsm t2)
    · exact ask_txt (by omega) (tsm u2)
    · exact ask_txt (by omega) asm
    · exact ask_oth (t := "NoneType") rfl rfl ⟨by decide +kernel, by decide +kernel, by decide +kernel, by decide +kernel⟩
    · exact ask_oth (t := "int") rfl rfl ⟨by decide +kernel, by decide +kernel, by decide +kernel, by decide +kernel⟩
    · exact ask_oth (t := "tuple") rfl rfl ⟨by decide +kernel, by decide +kernel, by decide +kernel, by decide +kernel⟩
    · exact ask_oth (t := "list") rfl rfl ⟨by decide +kernel, by decide +kernel, by decide +kernel, by decide +kernel⟩
    · exact ask_txt (by decide +kernel) (by decide +kernel)
    · exact ask_txt (by decide +kernel) (by decide +kernel)
    · exact ask_oth (t := "tuple") rfl rfl ⟨by decide +kernel, by decide +kernel, by decide +kernel, by decide +kernel⟩
  refine .cons <| .setN 7 s__law_letters_right.nd <| .bin <| .var 7 rfl ?_
  refine WE.lc1 8 [("_law_go", 8)] rfl s__law_letters_right.nd (show BlkOk n__law_letters_right (defScope (top 56)) _ _ from ⟨rfl, by decide +kernel, by decide +kernel, by decide +kernel, by decide +kernel⟩) ?_
  refine WI.range1 c.n_range <| .int ⟨_, rfl, by decide, by decide, ?_⟩
  unfold rng
  refine CompT.step (fun (i : Nat) => D.int (0 + (i : Int))) (fun pre acc M' => ∃ k', acc.length = pre.length ∧ (∀ d ∈ acc, AskOk v d) ∧ DkN k' (n + 30 + 20 * pre.length) ∧ M' = dkM a l k' M) ?_ (by rw [List.length_range]; show 5 ≤ sizeLine; decide) ?_ ⟨k2, rfl, by simp, kn2.mono (by simp only [List.length_nil]; omega), rfl⟩
  · rintro pre i post acc M' e2 ⟨k', al', aok, kn', rfl⟩
    have hpl : pre.length < 5 := by
      have := congrArg List.length e2
      simp at this; omega
    refine ⟨_, rfl, fun s H C cl fp => .call (hr.mono (j := 3) (by omega)) c.g__law_bent c.f__law_bent.kp c.b__law_bent <| .cons <| .var 0 rfl <| .cons <| .call hr4 c.g__law_text c.f__law_text.kp c.b__law_text <| .cons <| .var 0 rfl <| .cons <| .var 1 rfl <| .cons <| .int <| .nil <| t_law_text c ok.ok hn kn' (m := 6) (by omega) (by omega) (by omega) fun x k3 x0 x1 x2 kn3 => .cons <| .int <| .nil <| t_law_bent c (v := v) (by omega) (tsm x2) hn kn3 (by omega) fun d k4 dok kn4 => ?_⟩
    refine ⟨k4, by simp [al'], fun q hq => ?_, by rw [List.length_append]; exact kn4.mono (by simp; omega), rfl⟩
    rcases List.mem_append.mp hq with hq | hq
    · exact aok q hq
    · rw [List.mem_singleton.mp hq]; exact dok
  rintro acc M' ⟨k4, al', aok, kn4, rfl⟩
  have al5 : acc.length = 5 := by simpa using al'
  refine VO.catL (by omega) ?_
  generalize hys : xs ++ acc = ys
  have yok : ∀ d ∈ ys, AskOk v d := fun d hd => by
    rw [← hys] at hd
    rcases List.mem_append.mp hd with hd | hd
    · exact xok d hd
    · exact aok d hd
  refine .cons <| .for (L2.passes_of rfl) rfl ?_
  refine WI.enum c.n_enumerate <| .var 7 rfl ⟨ys, rfl, ?_⟩
  unfold enD
  refine ForT.map (fun (i : Nat) => D.tup [.int (i : Int), ys.getD i .non]) (fun pre ρ M2 => (∃ x9 x10 x11 x12 x14 x15, ρ = [some (.ref a), some (wD v), some (loomD K v), some (rD v), some (.str alpha), some (loomD K (redW v)), some (.str (alpha.take v.lifts.length)), some (.lst ys), none, x9, x10, x11, x12, none, x14, x15]) ∧ M2 = dkM a l k4 M) ?_ ?_ ⟨⟨none, none, none, none, none, none, rfl⟩, rfl⟩
  · rintro pre i post ρ M2 el ⟨⟨x9, x10, x11, x12, x14, x15, rfl⟩, rfl⟩
    obtain ⟨rfl, hi⟩ := range_split el
    have dok : AskOk v (ys.getD i .non) := by
      rw [List.getD_eq_getElem?_getD, List.getElem?_eq_getElem hi]
      exact yok _ (List.getElem_mem hi)
    generalize ys.getD i .non = d at dok
    refine .tup rfl <| .cons <| .nameN 9 s__law_letters_right.nd <| .cons <| .nameN 10 s__law_letters_right.nd <| .nil ?_
    refine .cons <| .par 11 12 rfl s__law_letters_right.nd <| .cons <| .callB c.n_repr rfl <| .cons <| .var 10 rfl <| .nil <| VC.reprO lo c.sys dok.r (by omega) (by omega) <| .cons <| .list <| .cons <| .str <| .cons <| .var 10 rfl <| .cons <| .bl <| .nil ⟨by show 3 ≤ sizeLine; decide, .nil ⟨_, _, rfl, ?_⟩⟩
    -- what is due
    refine .cut (fun ρ' M3 => ρ' = [some (.ref a), some (wD v), some (loomD K v), some (rD v), some (.str alpha), some (loomD K (redW v)), some (.str (alpha.take v.lifts.length)), some (.lst ys), none, some (.int (i : Int)), some d, some (.str (shN d)), some (toldD v d), none, x14, x15] ∧ M3 = dkM a l k4 M) ?_ ?_
    · rcases dok.a.k with ⟨t, rfl, hl⟩ | ⟨hnt, no⟩
      · obtain ⟨hl100, hsm⟩ := dok.s t rfl
        refine .ite <| .ww <| .and <| .val <| .callB c.n_isinstance rfl <| .cons <| .var 10 rfl <| .cons <| .ty c.n_str rfl <| .nil <| VC.isi (t := "str") (b := true) rfl rfl ⟨_, rfl, fun z => (nomatch z), fun _ => ?_⟩
        refine .and1 <| .cmp ?_
        refine WE.lc1 13 [("_law_sign", 13)] rfl s__law_letters_right.nd (show BlkOk n__law_letters_right (defScope (top 56)) _ _ from ⟨rfl, by decide +kernel, by decide +kernel, by decide +kernel, by decide +kernel⟩) ?_
        refine WI.str <| .var 10 rfl ⟨t, rfl, ?_⟩
        refine CompT.stepIf d1 (fun pr acc M5 => acc = (pr.filter fun c => !decide (c ∈ alpha.take v.lifts.length)).map d1 ∧ M5 = dkM a l k4 M) ?_ (by omega) ?_ ⟨rfl, rfl⟩
        · rintro pr x post' acc M5 _ ⟨rfl, rfl⟩
          refine ⟨_, rfl, fun b M1 => b = (!decide (x ∈ alpha.take v.lifts.length)) ∧ M1 = dkM a l k4 M, fun s H C cl fp => .cmp <| .var 13 rfl <| .var 6 rfl <| VO.notInSign ⟨_, rfl, rfl, rfl⟩, ?_, ?_⟩
          · rintro M1 ⟨z, rfl⟩
            exact ⟨by rw [List.filter_append]; simp [← z], rfl⟩
          · rintro M1 ⟨z, rfl⟩
            exact fun s H C cl fp => .var 13 rfl ⟨by rw [List.filter_append]; simp [← z, d1], rfl⟩
        rintro acc M5 ⟨rfl, rfl⟩
        refine .list <| .nil ⟨by show 0 ≤ sizeLine; decide, VO.eqD hu (shp_d1 fun c hc => hsm c (List.mem_filter.mp hc).1) shp_nil ⟨_, rfl, ?_⟩⟩
        rw [eqD_lnil]
        have emp : ((t.filter fun c => !decide (c ∈ alpha.take v.lifts.length)).map d1 = []) ↔ t.filter (fun c => !decide (c ∈ alpha.take v.lifts.length)) = [] := List.map_eq_nil_iff
        refine ⟨fun z => ?_, fun z => ?_⟩
        · have ht : okTr v t = true := by
            rw [okTr_filter]
            exact decide_eq_true (emp.mp (of_decide_eq_true z))
          have e : toldD v (.str t) = .str (ledT v t) := by simp [toldD, ht]
          rw [e]
          refine .one <| .setN 12 s__law_letters_right.nd <| .bm PySem.F.plainAttrs_str PySem.F.slot_str_join PySem.F.type_str_join <| .str ⟨.str, .cons ?_⟩
          refine WE.lc1 13 [("_law_sign", 13)] rfl s__law_letters_right.nd (show BlkOk n__law_letters_right (defScope (top 56)) _ _ from ⟨rfl, by decide +kernel, by decide +kernel, by decide +kernel, by decide +kernel⟩) ?_
          refine WI.str <| .var 10 rfl ⟨t, rfl, ?_⟩
          refine CompT.step (fun x => D.str [x]) (fun pre acc M5 => acc = (pre.map fun x => [(redL v).getD (x - 97) 0]).map D.str ∧ M5 = dkM a l k4 M) ?_ (by omega) ?_ ⟨rfl, rfl⟩
          · rintro pr x post' acc M5 ex ⟨rfl, rfl⟩
            obtain ⟨j, hj, rfl⟩ := tr_get l1 ht (x := x) (by rw [ex]; simp)
            refine ⟨_, rfl, fun s H C cl fp => .ix <| .ix <| .var 3 rfl <| .str <| VI.get hu1 (sk_str _) r_look4 <| .bm PySem.F.plainAttrs_str PySem.F.slot_str_index PySem.F.type_str_index <| .var 4 rfl ⟨.str, .cons <| .var 13 rfl <| .nil <| VM.sindex (occ_alpha ⟨j, by omega⟩) <| VI.str (c := (redL v).getD (97 + j - 97) 0) (by rw [redL_len]; omega) ?_ ⟨?_, rfl⟩⟩⟩
            · rw [TL.atI_nat, Nat.add_sub_cancel_left, List.getD_eq_getElem?_getD, List.getElem?_eq_getElem (by rw [redL_len]; exact hj)]; rfl
            · rw [List.map_append, List.map_append]; rfl
          rintro acc M5 ⟨rfl, rfl⟩
          refine .nil <| VM.joinL ?_ ?_
          · rw [List.map_map]
            have : ∀ l : List Nat, (l.map (List.length ∘ fun x => [(redL v).getD (x - 97) 0])).sum = l.length := by
              intro l
              induction l with
              | nil => rfl
              | cons a l ih => rw [List.map_cons, List.sum_cons, ih]; simp; omega
            rw [this]; omega
          · have : (t.map fun x => [(redL v).getD (x - 97) 0]).flatten = ledT v t := by
              unfold ledT
              rw [← flat_signs (t.map _), List.map_map]; rfl
            rw [this]
            exact ⟨rfl, rfl⟩
        · have ht : ¬ okTr v t = true := by
            rw [okTr_filter]
            intro z2
            exact absurd (decide_eq_true (emp.mpr (of_decide_eq_true z2))) (by rw [z]; decide)
          have e : toldD v (.str t) = .lst [.str (lit "bad"), .str t, .bl true] := by simp [toldD, ht]
          rw [e]
          exact .done ⟨rfl, rfl⟩
      · cases no with
        | txt _ _ => exact absurd rfl (hnt _)
        | @oth _ ty hty hk =>
          have e : toldD v d = .lst [.str (lit "bad"), d, .bl true] := by
            unfold toldD
            cases d <;> first | rfl | exact absurd rfl (hnt _)
          rw [e]
          exact .ite <| .ww <| .and <| .val <| .callB c.n_isinstance rfl <| .cons <| .var 10 rfl <| .cons <| .ty c.n_str rfl <| .nil <| VC.isi hty hk ⟨_, rfl, fun _ => ⟨fun z => (nomatch z), fun _ => .done ⟨rfl, rfl⟩⟩, fun z => (nomatch z)⟩
    rintro ρ' M3 ⟨rfl, rfl⟩
    have trep := told_rep l1 dok
    refine .cons <| .setN 14 s__law_letters_right.nd <| .call hr c.g__law_led c.f__law_led.kp c.b__law_led <| .cons <| .var 1 rfl <| .cons <| .var 10 rfl <| .cons <| .cmp <| .bin <| .var 9 rfl <| .int <| VO.modG (by decide) fun r r0 r1 => .int <| VO.eqI <| .nil <| t_law_led c ok dok.a ?_
    refine .skip <| .ww <| .or <| .cmp <| .callB c.n_repr rfl <| .cons <| .var 14 rfl <| .nil <| VC.reprO lo c.sys trep (by omega) (by omega) <| .callB c.n_repr rfl <| .cons <| .var 12 rfl <| .nil <| VC.reprO lo c.sys trep (by omega) (by omega) <| VO.neS ⟨_, rfl, by simp, fun _ => ?_⟩
    refine .or1 <| .cmp <| .callB c.n_repr rfl <| .cons <| .var 10 rfl <| .nil <| VC.reprO lo c.sys dok.r (by omega) (by omega) <| .var 11 rfl <| VO.neS ⟨_, rfl, by simp, ?_⟩
    have key : (∃ t, d = .str t ∧ t.length ≤ 100 ∧ okTr v t = true ∧ toldD v d = .str (ledT v t)) ∨ toldD v d = .lst [.str (lit "bad"), d, .bl true] := by
      rcases dok.a.k with ⟨t, rfl, hl⟩ | ⟨hnt, no⟩
      · by_cases ht : okTr v t = true
        · exact .inl ⟨t, rfl, (dok.s t rfl).1, ht, by simp [toldD, ht]⟩
        · exact .inr (by simp [toldD, ht])
      · refine .inr ?_
        unfold toldD
        cases d <;> first | rfl | exact absurd rfl (hnt _)
    refine .one <| .ite <| WT.imp (R := fun b M' => (b = true → ∃ t, d = .str t ∧ t.length ≤ 100 ∧ okTr v t = true ∧ t ≠ [] ∧ toldD v d = .str (ledT v t)) ∧ M' = dkM a l k4 M) ?_ ?_
    · rcases key with ⟨t, e1, e2, e3, e4⟩ | e4
      · refine .ww <| .and <| .val <| .callB c.n_isinstance rfl <| .cons <| .var 14 rfl <| .cons <| .ty c.n_str rfl <| .nil ?_
        rw [e4]
        refine VC.isi (t := "str") (b := true) rfl rfl ⟨_, rfl, fun z => (nomatch z), fun _ => .and1 <| .cmp <| .var 14 rfl <| .str <| VO.neS ⟨_, rfl, fun z => ⟨t, e1, e2, e3, fun et => ?_, rfl⟩, rfl⟩⟩
        rw [et] at z
        simp [ledT, lit] at z
      · refine .ww <| .and <| .val <| .callB c.n_isinstance rfl <| .cons <| .var 14 rfl <| .cons <| .ty c.n_str rfl <| .nil ?_
        rw [e4]
        exact VC.isi (t := "list") (b := false) rfl rfl ⟨_, rfl, fun _ => ⟨fun z => (nomatch z), rfl⟩, fun z => (nomatch z)⟩
    rintro b M3 ⟨hb, rfl⟩
    refine ⟨fun z => ?_, fun _ => .done ⟨⟨_, _, _, _, _, _, rfl⟩, rfl⟩⟩
    obtain ⟨t, rfl, tl, ht, tne, et⟩ := hb z
    rw [et]
    have dv : DrOk v t := ⟨ok.ok, tne, by omega, ht⟩
    have du : DrOk (redW v) (ledT v t) := ⟨rok, by simpa [ledT] using tne, by simp [ledT]; omega, led_ok l1 ht⟩
    have ca := dv.cw
    have cb := du.cw
    have er := rows_red l1 ht
    have ee := red_ends v
    rw [er] at cb
    refine .cons <| .setN 15 s__law_letters_right.nd <| .call (hr.mono (j := 6) (by omega)) c.g_woven c.f_woven.kp c.b_woven <| .cons <| .var 2 rfl <| .cons <| .var 10 rfl <| .nil <| t_woven2 c dv ?_
    refine .skip <| .ww <| .or <| .cmp <| .call (hr.mono (j := 6) (by omega)) c.g_woven c.f_woven.kp c.b_woven <| .cons <| .var 5 rfl <| .cons <| .var 14 rfl <| .nil <| t_woven2 c du <| .var 15 rfl ?_
    show VO _ _ (clothD K (rowsOf (redW v) (ledT v t))) (clothD K (rowsOf v t)) _ _
    rw [er]
    refine VO.neOwn (hr.mono (j := 2) (by omega)) c.ne_Cloth c.b_Cloth_eq <| t_Cloth_eq c ca ca ⟨_, rfl, _, rfl, by simp, fun _ => ?_⟩
    refine .or1 <| .cmp <| .fld <| .var 15 rfl ⟨_, _, _, rfl, c.cls_Cloth, c.no_Cloth_picks, by rfl, .call (hr.mono (j := 1) (by omega)) c.g__law_woven c.f__law_woven.kp c.b__law_woven <| .cons <| .var 1 rfl <| .cons <| .var 10 rfl <| .nil <| t_law_woven c ok.ok (by omega) ht <| VO.neD hu (shp_texts ca) (shp_texts ca) ⟨_, rfl, ?_, ?_⟩⟩
    · rw [eqD_texts]; simp
    have f1 := fewest_sh l1 ht
    have f2 := fewest_tr l1 ht
    refine .skip <| .ww <| .or <| .cmp <| .call (hr.mono (j := 3) (by omega)) c.g_fewest_shafts c.f_fewest_shafts.kp c.b_fewest_shafts <| .cons <| .var 15 rfl <| .nil <| t_fewest_shafts c ca <| .ix <| .var 3 rfl <| .str <| VI.get hu1 (sk_str _) r_look1 <| VO.gt ⟨_, rfl, fun z2 => ?_, fun _ => ?_⟩
    · have z2 := of_decide_eq_true z2
      have : (redW v).sh = ((uniq [] (v.ends.map (K81.kn v))).length : Nat) := rfl
      omega
    have rl3 := rok.l1
    refine .or1 <| .cmp <| .call (hr.mono (j := 3) (by omega)) c.g_fewest_treadles c.f_fewest_treadles.kp c.b_fewest_treadles <| .cons <| .var 15 rfl <| .nil <| t_fewest_treadles c ca <| .callB c.n_len rfl <| .cons <| .ix <| .var 3 rfl <| .str <| VI.get hu1 (sk_str _) r_look3 <| .nil <| VC.len (n := (redW v).lifts.length) (by simp [lenD]) <| VO.gt ⟨_, rfl, decide_eq_false (by show ¬ (((redW v).lifts.length : Nat) : Int) < ((uniq [] (kindsOf (rowsOf v t))).length : Nat); omega), ?_⟩
    refine .skip <| .cmp <| .callB c.n_repr rfl <| .cons <| .call (hr.mono (j := 7) (by omega)) c.g_first_crossing c.f_first_crossing.kp c.b_first_crossing <| .cons <| .tuple <| .cons <| .var 2 rfl <| .cons <| .var 10 rfl <| .nil ⟨by show 2 ≤ sizeLine; decide, .cons <| .tuple <| .cons <| .var 5 rfl <| .cons <| .var 14 rfl <| .nil ⟨by show 2 ≤ sizeLine; decide, .nil <| t_first_crossing c dv du fun r2 hf => ?_⟩⟩
    rw [er, ee] at hf
    obtain rfl := first_same hf
    refine .nil <| VC.reprO lo c.sys RepOk.non (by omega) (by omega) <| .callB c.n_repr rfl <| .cons <| .non <| .nil <| VC.reprO lo c.sys RepOk.non (by omega) (by omega) <| VO.neS ⟨_, rfl, by simp [optD], .done ⟨⟨_, _, _, _, _, _, rfl⟩, rfl⟩⟩
  · rintro ρ M2 ⟨⟨x9, x10, x11, x12, x14, x15, rfl⟩, rfl⟩
    exact ⟨_, Le.refl _, .one <| .ret <| .bl <| h k4 (kn4.mono (by simp))⟩
end
end K81
end
section
set_option maxRecDepth 100000
set_option maxHeartbeats 0
/-! K81Y: the law. -/
namespace K81
open PySem PySem.Spec PyProof.Rows L2 TL
open He (ga ma fAd)
/-- by hand -/
def vA : LW := ⟨4, [3, 1, 3, 0], [[1, 3], [0], [1, 2, 3]]⟩
def vB : LW := ⟨2, [0, 0, 0, 1], [[0], [1]]⟩
theorem ok_of {v : LW} (h : (decide (1 ≤ v.sh) && decide (v.sh ≤ 99) && decide (v.ends ≠ []) && decide (v.ends.length ≤ 100) && v.ends.all (fun i => decide (0 ≤ i ∧ i < v.sh)) && decide (v.lifts ≠ []) && decide (v.lifts.length ≤ 26) && v.lifts.all (fun l => decide (l.length ≤ 100) && l.all (fun i => decide (0 ≤ i ∧ i < v.sh)) && riseB l)) = true) : v.Ok := by
  simp only [Bool.and_eq_true, decide_eq_true_eq, List.all_eq_true] at h
  obtain ⟨⟨⟨⟨⟨⟨⟨h1, h2⟩, h3⟩, h4⟩, h5⟩, h6⟩, h7⟩, h8⟩ := h
  exact ⟨h1, h2, h3, h4, h5, h6, h7, fun l hl => ⟨(h8 l hl).1.1, (h8 l hl).1.2, (h8 l hl).2⟩⟩
theorem ok_A : vA.Ok := ok_of (by decide +kernel)
theorem ok_B : vB.Ok := ok_of (by decide +kernel)
theorem red_A : (redW vA).sh = vB.sh ∧ (redW vA).ends = vB.ends ∧ (redW vA).lifts = vB.lifts ∧ redL vA = lit "aba" := by
  decide +kernel
section
variable {w : World} {K : PySem.W.Frag} {mg : Str → Option Value} {base : Heap} {M : Mp} {Q : DQ}
theorem t_law (c : E81 w K mg base) {ns : List Int} (hl : ns.length ≤ 63) (h : ∀ M', Q (.bl true) M') :
    TFn P81 w K mg base 10 (ga K "law") (fdOf K ("law", none)) ["_law_script"] [.lst (ns.map D.int)] M Q := by
  refine TFn.of c.f_law s_law rfl fun cdv A outer s H F hr => ?_
  have hs := sizeLine_eq
  have hr6 := hr.mono (j := 6) (by omega)
  refine .cons <| .setN 1 s_law.nd <| .call (hr.mono (j := 1) (by omega)) c.g__law_deck c.f__law_deck.kp c.b__law_deck <| .cons <| .var 0 rfl <| .nil <| t_law_deck c hl fun a l k hn ha hl' kn => ?_
  refine .cons <| .for (L2.passes_of rfl) rfl ?_
  refine WI.range1 c.n_range <| .int ⟨_, rfl, by decide, by decide, ?_⟩
  unfold rng
  refine ForT.map (fun (i : Nat) => D.int (0 + (i : Int))) (fun pre ρ M2 => (∃ x2 x3 x4, ρ = [some (.lst (ns.map D.int)), some (.ref a), x2, x3, x4, none]) ∧ ∃ k', DkN k' (600 * pre.length) ∧ M2 = dkM a l k' M) ?_ ?_ ⟨⟨none, none, none, rfl⟩, k, kn.mono (by omega), rfl⟩
  · rintro pre i post ρ M2 el ⟨⟨x2, x3, x4, rfl⟩, k', kn', rfl⟩
    have hpl : pre.length < 3 := by
      have := congrArg List.length el
      simp at this; omega
    refine .nameN 2 s_law.nd ?_
    refine .cons <| .setN 3 s_law.nd <| .call (hr.mono (j := 3) (by omega)) c.g__law_loom c.f__law_loom.kp c.b__law_loom <| .cons <| .var 1 rfl <| .nil <| t_law_loom c hn kn' (by omega) fun v k1 ok e7 kn1 => ?_
    refine .cons <| .setN 4 s_law.nd <| .call hr6 c.g__law_code c.f__law_code.kp c.b__law_code <| .cons <| .var 3 rfl <| .nil <| t_law_code c ok.ok w_look1 w_look2 w_look3 ?_
    refine .skip <| .ww <| .or <| .not <| .val <| .call (hr.mono (j := 8) (by omega)) c.g__law_loom_right c.f__law_loom_right.kp c.b__law_loom_right <| .cons <| .var 3 rfl <| .cons <| .var 4 rfl <| .nil <| t_law_loom_right c ok ⟨_, rfl, fun z => (nomatch z), fun _ => ?_⟩
    refine .or <| .not <| .val <| .call hr c.g__law_letters_right c.f__law_letters_right.kp c.b__law_letters_right <| .cons <| .var 1 rfl <| .cons <| .var 3 rfl <| .cons <| .var 4 rfl <| .nil <| t_law_letters_right c ok hn kn1 (by omega) fun k2 kn2 => ⟨_, rfl, fun z => (nomatch z), fun _ => ?_⟩
    refine .or1 <| .not <| .val <| .call (hr.mono (j := 8) (by omega)) c.g__law_crossing_right c.f__law_crossing_right.kp c.b__law_crossing_right <| .cons <| .var 1 rfl <| .cons <| .var 3 rfl <| .nil <| t_law_crossing_right c ok e7 hn kn2 (by omega) fun k3 kn3 => ⟨_, rfl, rfl, ?_⟩
    refine .skip <| .not <| .cmp <| .var 4 rfl <| .call hr6 c.g__law_code c.f__law_code.kp c.b__law_code <| .cons <| .var 3 rfl <| .nil <| t_law_code c ok.ok w_look1 w_look2 w_look3 <| VO.eqOwn (hr.mono (j := 1) (by omega)) c.sp_Loom_eq.1 c.sp_Loom_eq.2 c.b_Loom_eq <| t_Loom_eq c ⟨_, rfl, _, rfl, by simp, .done ⟨⟨_, _, _, rfl⟩, k3, by rw [List.length_append]; exact kn3.mono (by simp; omega), rfl⟩⟩
  rintro ρ M2 ⟨⟨x2, x3, x4, rfl⟩, k', kn', rfl⟩
  refine ⟨_, Le.refl _, ?_⟩
  refine .cons <| .setN 5 s_law.nd <| .call hr6 c.g_reduced c.f_reduced.kp c.b_reduced <| .cons <| WE.make c.mk_Loom (k := 4) (hr.mono (j := 5) (by omega)) c.g_Loom c.b_Loom_init <| .cons <| .int <| .cons <| .tuple <| .cons <| .int <| .cons <| .int <| .cons <| .int <| .cons <| .int <| .nil ⟨by show 4 ≤ sizeLine; decide, ?_⟩
  refine .cons <| .tuple <| .cons <| .tuple <| .cons <| .int <| .cons <| .int <| .nil ⟨by show 2 ≤ sizeLine; decide, .cons <| .tuple <| .cons <| .int <| .nil ⟨by show 1 ≤ sizeLine; decide, .cons <| .tuple <| .cons <| .int <| .cons <| .int <| .cons <| .int <| .nil ⟨by show 3 ≤ sizeLine; decide, .nil ⟨by show 3 ≤ sizeLine; decide, .nil fun z hz => ?_⟩⟩⟩⟩
  refine t_Loom_init c (v := vA) ok_A hz <| .nil <| t_reduced c ok_A (by decide) ?_
  refine .one <| .ret <| .cmp <| .var 5 rfl <| .tuple <| .cons <| WE.make c.mk_Loom (k := 4) (hr.mono (j := 5) (by omega)) c.g_Loom c.b_Loom_init <| .cons <| .int <| .cons <| .tuple <| .cons <| .int <| .cons <| .int <| .cons <| .int <| .cons <| .int <| .nil ⟨by show 4 ≤ sizeLine; decide, ?_⟩
  refine .cons <| .tuple <| .cons <| .tuple <| .cons <| .int <| .nil ⟨by show 1 ≤ sizeLine; decide, .cons <| .tuple <| .cons <| .int <| .nil ⟨by show 1 ≤ sizeLine; decide, .nil ⟨by show 2 ≤ sizeLine; decide, .nil fun z hz => ?_⟩⟩⟩
  refine t_Loom_init c (v := vB) ok_B hz <| .cons <| .str <| .nil ⟨by show 2 ≤ sizeLine; decide, ?_⟩
  obtain ⟨r1, r2, r3, r4⟩ := red_A
  rw [r4]
  refine VO.eqTup2 (hr.mono (j := 1) (by omega)) ?_ (VB.flat rfl rfl (by decide +kernel)) (h _)
  exact VB.ins (hr.mono (j := 2) (by omega)).in1 rfl c.sp_Loom_eq.1 c.sp_Loom_eq.2 c.b_Loom_eq (t_Loom_eq c (by simp [r1, r2, r3]))
end
end K81
end
section
open PySem PySem.W PySem.Calls PyProof.Rows
set_option maxRecDepth 100000 in
set_option maxHeartbeats 0 in
theorem PySem.Challenge.cw_loomhold_k81_reduced_looms_and_first_cro_holds : PySem.Challenge.rw_loomhold_k81_reduced_looms_and_first_cro.Holds := by
  w_on; o_law
  refine HandSHeadRun.head_any (r := OpenLaw.row PySem.Challenge.rw_loomhold_k81_reduced_looms_and_first_cro) (q := view (OpenLaw.row PySem.Challenge.rw_loomhold_k81_reduced_looms_and_first_cro).prog [60]) (H := K81.hk) (ob := K81.ob) (M := 4000) (loose := K81.loose) (d := HandSHeadRun.topDef (OpenLaw.row PySem.Challenge.rw_loomhold_k81_reduced_looms_and_first_cro).prog 60) (kwd := []) K81.ob_eq
    (by kernel_rfl) (fun s => by kernel_rfl) K81.run (by kernel_rfl) (by kernel_rfl) (by kernel_rfl) (by rfl) (by first | assumption | decide +kernel) (by decide +kernel) ⟨rfl, rfl, rfl, rfl, rfl, by decide +kernel⟩ ?hw ?hc
  case hw => w_witness2
  case hc =>
    refine TL.walkT (l := PySem.Challenge.rw_loomhold_k81_reduced_looms_and_first_cro) (n := 63) (k := 10) (x := "_law_script") rfl (by decide) (by kernel_rfl) ⟨rfl, by decide, by decide⟩ ?F
    intro w mg fa h Y G hmg0
    obtain ⟨K, KX, c⟩ := Y
    have hmg : mg ("law" : PySem.Str) = some (.ref fa) := by
      have e : (HandSHeadRun.topDef (OpenLaw.row PySem.Challenge.rw_loomhold_k81_reduced_looms_and_first_cro).prog 60).name = ("law" : PySem.Str) := by kernel_rfl
      rw [← e]
      exact hmg0
    have E : K81.E81 w K mg h := ⟨KX, G, c⟩
    have e := hmg.symm.trans E.g_law
    cases e
    have b := L2.FunD.bindsA (ps := ["_law_script"]) E.f_law fun _ _ _ _ _ _ us hl => match us, hl with | [_], _ => rfl
    exact ⟨K, _, KX, E.noLst, fun s u => b s [u] rfl, fun ns hl base kb nb => K81.t_law ⟨kb, nb, c⟩ hl fun _ => rfl⟩
end
