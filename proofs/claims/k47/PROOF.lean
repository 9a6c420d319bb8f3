import PyProof.Rows.All
import HandS.Codes
import HandS.Deep
import HandS.Defaults
import HandS.FStr
import HandS.Flow
import HandS.ForExc
import HandS.ForMost
import HandS.Head2
import HandS.HeadEnd
import HandS.HeadHook1
import HandS.HeadHook2
import HandS.IsInst
import HandS.More
import HandS.RaiseMore
import HandS.ReplaceList
import HandS.ReplaceLit
import HandS.SortInts
import HandS.Star
import HandS.StrMore
import HandS.StrSplit
import HandS.Strs
import HandS.Style
import HandS.TupAny
import HandS.TupLe
import HandS.TupMul
import HandS.Wide
import HandS.WideBits
import HandS.Words
import HandS.Zip
import KE.GoesMore
import KE.KRevSl
import OpenK.AllK
import PyProof.StrLawsRepr
import PyProof.TupleOfSeq
import Wide.All
import Wide.FinOn
import PySem.Challenge.RW_freshrounds_k47_whole_deeds_and_cuts_at
set_option Elab.async false
set_option linter.all false
set_option maxRecDepth 100000
set_option maxHeartbeats 8000000
/-! FrA: data over an abstract heap; the frozen part and the owned cells; the state of a def's slots -/
namespace FR
open PySem L2

abbrev D := PyData

/-- objects that are known by a number alone: 0 is a source of draws, a list of three ints -/
def WellP (a : Addr) (h : Heap) : Prop := ∃ (i j k : Int) (t u v : Tok) (n : Nat), 0 ≤ i ∧ -(2 ^ 40) < j ∧ j < 2 ^ 40 ∧ h.get? a = some { cls := .type "list", data := .seq #[.int i t, .int j u, .int k v] n }
def OQ (n : Nat) (a : Addr) : HO := match n with
  | 0 => .ext (WellP a)
  | _ => .own a
abbrev opqD (n : Nat) : D := .dict [(.none, .int n)]
abbrev wellD : D := opqD 0
/-- the script -/
abbrev scrD (ns : List Int) : D := .dict [(.none, .list (ns.map PyData.int))]
/-- a tuple that is known to its object -/
abbrev tupN (ds : List D) : D := .dict [(.bool true, .tuple ds)]

mutual
inductive Dv (K : PySem.W.Frag) (H : Hp) : V → D → Prop
  | non : Dv K H .non .none
  | bl (b : Bool) : Dv K H (.bl b) (.bool b)
  | int (i : Int) : Dv K H (.int i) (.int i)
  | str (x : Str) : Dv K H (.str x) (.str x)
  | lst {a : Addr} {xs : List V} {ds : List D} : H a = some (.lst xs) → DvA K H xs ds → Dv K H (.ref a) (.list ds)
  | tup {a : Addr} {xs : List V} {ds : List D} : SqT K H a xs → DvA K H xs ds → Dv K H (.ref a) (.tuple ds)
  | opq {a : Addr} {n : Nat} : H a = some (OQ n a) → Dv K H (.ref a) (opqD n)
  | scr {a : Addr} {ns : List Int} : SqL K H a (ns.map V.int) → Dv K H (.ref a) (scrD ns)
  | tpn {a : Addr} {o : Obj} {xs : List V} {ds : List D} : H a = some (.frz o (.tup xs)) → o.dict = none → DvA K H xs ds → Dv K H (.ref a) (tupN ds)
inductive DvA (K : PySem.W.Frag) (H : Hp) : List V → List D → Prop
  | nil : DvA K H [] []
  | cons {v : V} {vs : List V} {d : D} {ds : List D} : Dv K H v d → DvA K H vs ds → DvA K H (v :: vs) (d :: ds)
end

/-- all that is tracked stays -/
def Ex (H H' : Hp) : Prop := ∀ a o, H a = some o → H' a = some o
theorem Ex.refl (H : Hp) : Ex H H := fun _ _ h => h
theorem Ex.trans {H H1 H2 : Hp} (a : Ex H H1) (b : Ex H1 H2) : Ex H H2 := fun x o h => b x o (a x o h)
theorem Ex.new {H : Hp} {p : Addr} {o : HO} (h : H p = none) : Ex H (upd H p o) := fun a u e => by
  rw [upd_ne (ne_of_none e h)]; exact e
theorem Ex.free {H H' : Hp} (e : Ex H H') {p : Addr} (h : H' p = none) : H p = none := by
  cases h1 : H p with
  | none => rfl
  | some o => rw [e p o h1] at h; cases h
theorem Ex.rd {H H' : Hp} {a : Addr} {u : HO} (e : Ex H H') (h : Rd H a u) : Rd H' a u := by
  rcases h with h | ⟨o, h⟩
  · exact .inl (e a _ h)
  · exact .inr ⟨o, e a _ h⟩
theorem Ex.sl {K : PySem.W.Frag} {H H' : Hp} {a : Addr} {xs : List V} (e : Ex H H') (h : SqL K H a xs) : SqL K H' a xs := by
  rcases h with h | h
  · exact .inl (e.rd h)
  · exact .inr h
theorem Ex.st {K : PySem.W.Frag} {H H' : Hp} {a : Addr} {xs : List V} (e : Ex H H') (h : SqT K H a xs) : SqT K H' a xs := by
  rcases h with h | h
  · exact .inl (e.rd h)
  · exact .inr h

section
variable {K : PySem.W.Frag} {H H' : Hp}
mutual
theorem Dv.mono (e : Ex H H') : ∀ {d : D} {v : V}, Dv K H v d → Dv K H' v d
  | _, _, .non => .non
  | _, _, .bl b => .bl b
  | _, _, .int i => .int i
  | _, _, .str x => .str x
  | _, _, .lst h t => .lst (e _ _ h) (DvA.mono e t)
  | _, _, .tup h t => .tup (e.st h) (DvA.mono e t)
  | _, _, .opq h => .opq (e _ _ h)
  | _, _, .scr h => .scr (e.sl h)
  | _, _, .tpn h d t => .tpn (e _ _ h) d (DvA.mono e t)
theorem DvA.mono (e : Ex H H') : ∀ {ds : List D} {vs : List V}, DvA K H vs ds → DvA K H' vs ds
  | _, _, .nil => .nil
  | _, _, .cons h t => .cons (Dv.mono e h) (DvA.mono e t)
end

theorem DvA.length : ∀ {vs : List V} {ds : List D}, DvA K H vs ds → vs.length = ds.length
  | _, _, .nil => rfl
  | _, _, .cons _ t => by rw [List.length_cons, List.length_cons, t.length]
theorem DvA.app : ∀ {vs ws : List V} {ds es : List D}, DvA K H vs ds → DvA K H ws es → DvA K H (vs ++ ws) (ds ++ es)
  | _, _, _, _, .nil, t => t
  | _, _, _, _, .cons h r, t => .cons h (r.app t)
theorem DvA.get : ∀ {vs : List V} {ds : List D} {i : Nat} {d : D}, DvA K H vs ds → ds[i]? = some d → ∃ v, vs[i]? = some v ∧ Dv K H v d
  | _, _, _, _, .nil, e => by simp at e
  | _, _, 0, _, .cons h _, e => by simp at e; subst e; exact ⟨_, rfl, h⟩
  | _, _, i + 1, _, .cons _ t, e => by
    obtain ⟨v, h1, h2⟩ := t.get (i := i) (by simpa using e)
    exact ⟨v, by simpa using h1, h2⟩
theorem DvA.getV : ∀ {vs : List V} {ds : List D} {i : Nat} {v : V}, DvA K H vs ds → vs[i]? = some v → ∃ d, ds[i]? = some d ∧ Dv K H v d
  | _, _, _, _, .nil, e => by simp at e
  | _, _, 0, _, .cons h _, e => by simp at e; subst e; exact ⟨_, rfl, h⟩
  | _, _, i + 1, _, .cons _ t, e => by
    obtain ⟨v, h1, h2⟩ := t.getV (i := i) (by simpa using e)
    exact ⟨v, by simpa using h1, h2⟩
theorem DvA.take : ∀ {vs : List V} {ds : List D} (n : Nat), DvA K H vs ds → DvA K H (vs.take n) (ds.take n)
  | _, _, 0, _ => .nil
  | _, _, _ + 1, .nil => .nil
  | _, _, n + 1, .cons h t => .cons h (t.take n)
theorem DvA.drop : ∀ {vs : List V} {ds : List D} (n : Nat), DvA K H vs ds → DvA K H (vs.drop n) (ds.drop n)
  | _, _, 0, r => r
  | _, _, _ + 1, .nil => .nil
  | _, _, n + 1, .cons _ t => t.drop n
theorem DvA.set : ∀ {vs : List V} {ds : List D} {v : V} {d : D} (i : Nat), DvA K H vs ds → Dv K H v d → DvA K H (vs.set i v) (ds.set i d)
  | _, _, _, _, _, .nil, _ => .nil
  | _, _, _, _, 0, .cons _ t, h => .cons h t
  | _, _, _, _, i + 1, .cons q t, h => .cons q (t.set i h)
theorem DvA.rev {vs : List V} {ds : List D} (h : DvA K H vs ds) : DvA K H vs.reverse ds.reverse := by
  induction vs generalizing ds with
  | nil => cases h; exact .nil
  | cons v vs ih =>
    cases h with
    | cons h t => rw [List.reverse_cons, List.reverse_cons]; exact (ih t).app (.cons h .nil)
theorem DvA.ints : ∀ {ns : List Int} {vs : List V}, DvA K H vs (ns.map PyData.int) → vs = ns.map V.int
  | [], _, .nil => rfl
  | _ :: _, _, .cons (.int _) t => by rw [List.map_cons, t.ints]
theorem DvA.of_ints : ∀ {ns : List Int}, DvA K H (ns.map V.int) (ns.map PyData.int)
  | [] => .nil
  | _ :: _ => .cons (.int _) DvA.of_ints
theorem DvA.bls : ∀ {ns : List Bool} {vs : List V}, DvA K H vs (ns.map PyData.bool) → vs = ns.map V.bl
  | [], _, .nil => rfl
  | _ :: _, _, .cons (.bl _) t => by rw [List.map_cons, t.bls]
theorem DvA.strs : ∀ {ns : List Str} {vs : List V}, DvA K H vs (ns.map PyData.str) → vs = ns.map V.str
  | [], _, .nil => rfl
  | _ :: _, _, .cons (.str _) t => by rw [List.map_cons, t.strs]
theorem DvA.of_strs : ∀ {ns : List Str}, DvA K H (ns.map V.str) (ns.map PyData.str)
  | [] => .nil
  | _ :: _ => .cons (.str _) DvA.of_strs
theorem Dv.none_iff {v : V} {d : D} (h : Dv K H v d) : v = .non ↔ d = .none := by
  cases h with
  | non => simp
  | opq _ => simp [opqD]
  | scr _ => simp [scrD]
  | tpn _ _ _ => simp [tupN]
  | _ => simp
end

/-! ### data of the library's kind: no opaque object within -/
mutual
def plain : D → Bool
  | .none | .bool _ | .int _ | .str _ => true
  | .list xs | .tuple xs => plainA xs
  | .dict _ => false
def plainA : List D → Bool
  | [] => true
  | x :: xs => plain x && plainA xs
end
section
variable {K : PySem.W.Frag} {H : Hp}
mutual
theorem Dv.dp : ∀ {d : D} {v : V}, Dv K H v d → plain d = true → Dp K H v d
  | _, _, .non, _ => .non
  | _, _, .bl b, _ => .bl b
  | _, _, .int i, _ => .int i
  | _, _, .str x, _ => .str x
  | _, _, .lst h t, e => .lst (.of h) (DvA.dp t (by simpa [plain] using e))
  | _, _, .tup h t, e => .tup h (DvA.dp t (by simpa [plain] using e))
  | _, _, .opq h, e => by simp [opqD, plain] at e
  | _, _, .scr h, e => by simp [scrD, plain] at e
  | _, _, .tpn h d t, e => by simp [tupN, plain] at e
theorem DvA.dp : ∀ {ds : List D} {vs : List V}, DvA K H vs ds → plainA ds = true → DpAll K H vs ds
  | _, _, .nil, _ => .nil
  | d :: ds, _, .cons h t, e => by
    have e' : plain d = true ∧ plainA ds = true := by simpa [plainA] using e
    exact .cons (Dv.dp h e'.1) (DvA.dp t e'.2)
end
end

/-! ### the frozen part of the heap -/
/-- from the pair (Hf, H) to (Gf, G): both grow, what is tracked in H is frozen in Gf only if it was -/
structure Ext (Hf H Gf G : Hp) : Prop where
  ex : Ex H G
  fz : Ex Hf Gf
  sub : Ex Gf G
  old : ∀ a, H a ≠ none → Gf a = Hf a
theorem Ext.refl {Hf H : Hp} (h : Ex Hf H) : Ext Hf H Hf H := ⟨.refl _, .refl _, h, fun _ _ => rfl⟩
theorem Ext.trans {Hf H Gf G Jf J : Hp} (a : Ext Hf H Gf G) (b : Ext Gf G Jf J) : Ext Hf H Jf J :=
  ⟨a.ex.trans b.ex, a.fz.trans b.fz, b.sub, fun x n => (b.old x fun z => by
    cases e : H x with
    | none => exact n e
    | some o => rw [a.ex x o e] at z; cases z).trans (a.old x n)⟩
/-- a new frozen object -/
theorem Ext.new {Hf H : Hp} {p : Addr} {o : HO} (h : Ex Hf H) (n : H p = none) : Ext Hf H (upd Hf p o) (upd H p o) :=
  ⟨.new n, .new (h.free n), fun a u e => by
    by_cases q : a = p
    · subst q; rw [upd_same] at e ⊢; exact e
    · rw [upd_ne q] at e ⊢; exact h a u e, fun a z => by
    have q : a ≠ p := fun q => by subst q; exact z n
    exact upd_ne q⟩
/-- a new object that is not frozen -/
theorem Ext.own {Hf H : Hp} {p : Addr} {o : HO} (h : Ex Hf H) (n : H p = none) : Ext Hf H Hf (upd H p o) :=
  ⟨.new n, .refl _, h.trans (.new n), fun _ _ => rfl⟩

/-! ### slots -/
/-- a slot: nothing, frozen data, a list or a dict of this def's own -/
inductive Sl where
  | no
  | d (x : D)
  | l (xs : List D)
  | m (kvs : List (Key × D))

/-- a key -/
def kD : Key → D
  | .inl i => .int i
  | .inr x => .str x
abbrev KvA (K : PySem.W.Frag) (H : Hp) : List (Key × V) → List (Key × D) → Prop := Paired fun p q => p.1 = q.1 ∧ Dv K H p.2 q.2
theorem KvA.mono {K : PySem.W.Frag} {H H' : Hp} (e : Ex H H') {r : List (Key × V)} {s : List (Key × D)} (h : KvA K H r s) : KvA K H' r s := Paired.mapP h fun _ _ q => ⟨q.1, q.2.mono e⟩

/-- the cell at l: not frozen, not of the root's heap; its content's items are frozen -/
def OwnAt (K : PySem.W.Frag) (RH Hf H : Hp) (l : Addr) : Sl → Prop
  | .l ds => RH l = none ∧ Hf l = none ∧ ∃ xs, H l = some (.lst xs) ∧ DvA K Hf xs ds
  | .m kvs => RH l = none ∧ Hf l = none ∧ ∃ xs, H l = some (.dK xs) ∧ KvA K Hf xs kvs
  | _ => False
def SlAt (K : PySem.W.Frag) (RH Hf H : Hp) (o : Option V) : Sl → Prop
  | .no => True
  | .d x => ∃ v, o = some v ∧ Dv K Hf v x
  | .l ds => ∃ l, o = some (.ref l) ∧ OwnAt K RH Hf H l (.l ds)
  | .m kvs => ∃ l, o = some (.ref l) ∧ OwnAt K RH Hf H l (.m kvs)
def isOwn : Sl → Bool
  | .l _ => true
  | .m _ => true
  | _ => false

/-- the state of a def's slots; R: the pair at the entry -/
structure SD (K : PySem.W.Frag) (Rf RH Hf H : Hp) (σ : L2.St) (δ : List Sl) : Prop where
  ext : Ext Rf RH Hf H
  len : σ.length = δ.length
  at_ : ∀ (i : Nat) (s : Sl) (o : Option V), δ[i]? = some s → σ[i]? = some o → SlAt K RH Hf H o s
  sep : ∀ (i j : Nat) (s t : Sl) (l : Addr), δ[i]? = some s → δ[j]? = some t → isOwn s = true → isOwn t = true → σ[i]? = some (some (.ref l)) → σ[j]? = some (some (.ref l)) → i = j

section
variable {K : PySem.W.Frag} {Rf RH Hf H Gf G : Hp} {σ : L2.St} {δ : List Sl}
theorem SlAt.mono {o : Option V} {s : Sl} (e : Ext Hf H Gf G) (h : SlAt K RH Hf H o s) : SlAt K RH Gf G o s := by
  cases s with
  | no => trivial
  | d x => obtain ⟨v, e1, h⟩ := h; exact ⟨v, e1, h.mono e.fz⟩
  | l ds =>
    obtain ⟨l, e1, n, f, xs, h1, h2⟩ := h
    exact ⟨l, e1, n, (e.old l (by rw [h1]; exact fun z => by cases z)).trans f, xs, e.ex _ _ h1, h2.mono e.fz⟩
  | m ds =>
    obtain ⟨l, e1, n, f, xs, h1, h2⟩ := h
    exact ⟨l, e1, n, (e.old l (by rw [h1]; exact fun z => by cases z)).trans f, xs, e.ex _ _ h1, KvA.mono e.fz h2⟩
theorem SD.mono (S : SD K Rf RH Hf H σ δ) (e : Ext Hf H Gf G) : SD K Rf RH Gf G σ δ :=
  ⟨S.ext.trans e, S.len, fun i s o h1 h2 => (S.at_ i s o h1 h2).mono e, S.sep⟩
theorem SD.sub (S : SD K Rf RH Hf H σ δ) : Ex Hf H := S.ext.sub
theorem SD.get (S : SD K Rf RH Hf H σ δ) {i : Nat} {s : Sl} (h : δ[i]? = some s) : ∃ o, σ[i]? = some o ∧ SlAt K RH Hf H o s := by
  have hi : i < σ.length := by rw [S.len]; exact (List.getElem?_eq_some_iff.mp h).1
  exact ⟨σ[i], by simp [hi], S.at_ i s _ h (by simp [hi])⟩
/-- frozen data into a slot -/
theorem SD.setD (S : SD K Rf RH Hf H σ δ) {i : Nat} {v : V} {x : D} (h : Dv K Hf v x) : SD K Rf RH Hf H (σ.set i (some v)) (δ.set i (.d x)) := by
  refine ⟨S.ext, by rw [List.length_set, List.length_set, S.len], fun j s o h1 h2 => ?_, fun j k s t l h1 h2 o1 o2 q1 q2 => ?_⟩
  · by_cases e : i = j
    · subst e
      have hi : i < δ.length := by have := (List.getElem?_eq_some_iff.mp h1).1; rw [List.length_set] at this; exact this
      rw [List.getElem?_set_self hi] at h1
      rw [List.getElem?_set_self (by rw [S.len]; exact hi)] at h2
      cases h1; cases h2
      exact ⟨v, rfl, h⟩
    · rw [List.getElem?_set_ne e] at h1 h2
      exact S.at_ j s o h1 h2
  · have nj : ∀ {j : Nat} {s : Sl}, (δ.set i (.d x))[j]? = some s → isOwn s = true → i ≠ j := fun {j s} h o e => by
      subst e
      have hi : i < δ.length := by have := (List.getElem?_eq_some_iff.mp h).1; rw [List.length_set] at this; exact this
      rw [List.getElem?_set_self hi] at h; cases h; cases o
    have a := nj h1 o1
    have b := nj h2 o2
    rw [List.getElem?_set_ne a] at h1 q1
    rw [List.getElem?_set_ne b] at h2 q2
    exact S.sep j k s t l h1 h2 o1 o2 q1 q2
/-- the def's own cell at l into slot i, where no other slot has it -/
theorem SD.setO (S : SD K Rf RH Hf H σ δ) {i : Nat} {l : Addr} {s0 : Sl} {G : Hp} (hG : Ext Rf RH Hf G) (oth : ∀ a, a ≠ l → G a = H a) (h : OwnAt K RH Hf G l s0) (hs : isOwn s0 = true)
    (un : ∀ (j : Nat) (s : Sl), j ≠ i → δ[j]? = some s → isOwn s = true → σ[j]? ≠ some (some (.ref l))) : SD K Rf RH Hf G (σ.set i (some (.ref l))) (δ.set i s0) := by
  have hat : SlAt K RH Hf G (some (.ref l)) s0 := by
    cases s0 with
    | no => cases hs
    | d x => cases hs
    | l ds => exact ⟨l, rfl, h⟩
    | m ds => exact ⟨l, rfl, h⟩
  refine ⟨hG, by rw [List.length_set, List.length_set, S.len], fun j s o h1 h2 => ?_, fun j k s t p h1 h2 o1 o2 q1 q2 => ?_⟩
  · by_cases e : i = j
    · subst e
      have hi : i < δ.length := by have := (List.getElem?_eq_some_iff.mp h1).1; rw [List.length_set] at this; exact this
      rw [List.getElem?_set_self hi] at h1
      rw [List.getElem?_set_self (by rw [S.len]; exact hi)] at h2
      cases h1; cases h2
      exact hat
    · rw [List.getElem?_set_ne e] at h1 h2
      have q := S.at_ j s o h1 h2
      cases s with
      | no => trivial
      | d x => exact q
      | l ds =>
        obtain ⟨p, e1, n, f, xs, r1, r2⟩ := q
        subst e1
        have np : p ≠ l := fun z => un j _ (Ne.symm e) h1 rfl (by rw [h2, z])
        exact ⟨p, rfl, n, f, xs, (oth p np).trans r1, r2⟩
      | m ds =>
        obtain ⟨p, e1, n, f, xs, r1, r2⟩ := q
        subst e1
        have np : p ≠ l := fun z => un j _ (Ne.symm e) h1 rfl (by rw [h2, z])
        exact ⟨p, rfl, n, f, xs, (oth p np).trans r1, r2⟩
  · by_cases e1 : i = j
    · by_cases e2 : i = k
      · exact e1.symm.trans e2
      · exfalso
        subst e1
        have hi : i < σ.length := by have := (List.getElem?_eq_some_iff.mp q1).1; rw [List.length_set] at this; exact this
        rw [List.getElem?_set_self hi] at q1
        rw [List.getElem?_set_ne e2] at h2 q2
        cases q1
        exact un k t (Ne.symm e2) h2 o2 q2
    · by_cases e2 : i = k
      · exfalso
        subst e2
        have hi : i < σ.length := by have := (List.getElem?_eq_some_iff.mp q2).1; rw [List.length_set] at this; exact this
        rw [List.getElem?_set_self hi] at q2
        rw [List.getElem?_set_ne e1] at h1 q1
        cases q2
        exact un j s (Ne.symm e1) h1 o1 q1
      · rw [List.getElem?_set_ne e1] at h1 q1
        rw [List.getElem?_set_ne e2] at h2 q2
        exact S.sep j k s t p h1 h2 o1 o2 q1 q2
/-- no slot has an address that is free -/
theorem SD.noSlot (S : SD K Rf RH Hf H σ δ) {l : Addr} (n : H l = none) : ∀ (j : Nat) (s : Sl), δ[j]? = some s → isOwn s = true → σ[j]? ≠ some (some (.ref l)) := fun j s h1 o q => by
  have z := S.at_ j s _ h1 q
  cases s with
  | no => cases o
  | d x => cases o
  | l ds => obtain ⟨p, e, _, _, xs, r, _⟩ := z; cases e; rw [n] at r; cases r
  | m ds => obtain ⟨p, e, _, _, xs, r, _⟩ := z; cases e; rw [n] at r; cases r
/-- a slot forgotten -/
theorem SD.setN (S : SD K Rf RH Hf H σ δ) {i : Nat} {o : Option V} : SD K Rf RH Hf H (σ.set i o) (δ.set i .no) := by
  refine ⟨S.ext, by rw [List.length_set, List.length_set, S.len], fun j s o h1 h2 => ?_, fun j k s t l h1 h2 o1 o2 q1 q2 => ?_⟩
  · by_cases e : i = j
    · subst e
      have hi : i < δ.length := by have := (List.getElem?_eq_some_iff.mp h1).1; rw [List.length_set] at this; exact this
      rw [List.getElem?_set_self hi] at h1
      cases h1
      trivial
    · rw [List.getElem?_set_ne e] at h1 h2
      exact S.at_ j s _ h1 h2
  · have nj : ∀ {j : Nat} {s : Sl}, (δ.set i .no)[j]? = some s → isOwn s = true → i ≠ j := fun {j s} h o e => by
      subst e
      have hi : i < δ.length := by have := (List.getElem?_eq_some_iff.mp h).1; rw [List.length_set] at this; exact this
      rw [List.getElem?_set_self hi] at h; cases h; cases o
    have a := nj h1 o1
    have b := nj h2 o2
    rw [List.getElem?_set_ne a] at h1 q1
    rw [List.getElem?_set_ne b] at h2 q2
    exact S.sep j k s t l h1 h2 o1 o2 q1 q2
end

/-! ### what an evaluation leaves: frozen data, or (shallow) a cell of this def's own -/
def VF (K : PySem.W.Frag) (Hf H : Hp) (v : V) (x : D) : Prop := Dv K Hf v x
/-- data whose items are frozen -/
inductive VS (K : PySem.W.Frag) (Hf H : Hp) : V → D → Prop
  | f {v : V} {x : D} : Dv K Hf v x → VS K Hf H v x
  | l {l : Addr} {xs : List V} {ds : List D} : H l = some (.lst xs) → DvA K Hf xs ds → VS K Hf H (.ref l) (.list ds)
theorem VS.mono {K : PySem.W.Frag} {Hf H Gf G : Hp} {v : V} {x : D} (e : Ext Hf H Gf G) : VS K Hf H v x → VS K Gf G v x
  | .f h => .f (h.mono e.fz)
  | .l h t => .l (e.ex _ _ h) (t.mono e.fz)
section
variable {K : PySem.W.Frag} {Hf H : Hp} {v : V}
theorem VS.int_ {i : Int} : VS K Hf H v (.int i) → v = .int i
  | .f (.int _) => rfl
theorem VS.bl_ {i : Bool} : VS K Hf H v (.bool i) → v = .bl i
  | .f (.bl _) => rfl
theorem VS.str_ {i : Str} : VS K Hf H v (.str i) → v = .str i
  | .f (.str _) => rfl
theorem VS.non_ : VS K Hf H v .none → v = .non
  | .f .non => rfl
theorem VS.lst_ {ds : List D} (e : Ex Hf H) : VS K Hf H v (.list ds) → ∃ l xs, v = .ref l ∧ H l = some (.lst xs) ∧ DvA K Hf xs ds
  | .f (.lst h t) => ⟨_, _, rfl, e _ _ h, t⟩
  | .l h t => ⟨_, _, rfl, h, t⟩
theorem VS.tup_ {ds : List D} (e : Ex Hf H) : VS K Hf H v (.tuple ds) → ∃ l xs, v = .ref l ∧ SqT K H l xs ∧ DvA K Hf xs ds
  | .f (.tup h t) => ⟨_, _, rfl, e.st h, t⟩
theorem VS.scr_ {ns : List Int} (e : Ex Hf H) : VS K Hf H v (scrD ns) → ∃ l, v = .ref l ∧ SqL K H l (ns.map V.int) := by
  intro h
  generalize hx : scrD ns = x at h
  cases h with
  | f h =>
    cases h with
    | scr h =>
      rename_i a ms
      have : ms = ns := by
        have q := hx
        simp only [scrD, PyData.dict.injEq, List.cons.injEq, Prod.mk.injEq, PyData.list.injEq, true_and, and_true] at q
        have inj : ∀ (xs ys : List Int), xs.map PyData.int = ys.map PyData.int → xs = ys := by
          intro xs
          induction xs with
          | nil => intro ys h; cases ys with
            | nil => rfl
            | cons _ _ => simp at h
          | cons x xs ih => intro ys h; cases ys with
            | nil => simp at h
            | cons y ys =>
              simp only [List.map_cons, List.cons.injEq, PyData.int.injEq] at h
              rw [h.1, ih ys h.2]
        exact (inj _ _ q).symm
      subst this
      exact ⟨a, rfl, e.sl h⟩
    | opq h => simp [scrD, opqD] at hx
    | tpn _ _ _ => simp [scrD, tupN] at hx
    | _ => simp [scrD] at hx
  | l h t => simp [scrD] at hx
theorem VS.opq_ {n : Nat} (e : Ex Hf H) : VS K Hf H v (opqD n) → ∃ l, v = .ref l ∧ H l = some (OQ n l) := by
  intro h
  generalize hx : opqD n = x at h
  cases h with
  | f h =>
    cases h with
    | opq h =>
      rename_i a m
      have : n = m := by
        simp only [opqD, PyData.dict.injEq, List.cons.injEq, Prod.mk.injEq, PyData.int.injEq, true_and, and_true] at hx
        omega
      subst this
      exact ⟨a, rfl, e _ _ h⟩
    | scr h => simp [scrD, opqD] at hx
    | tpn _ _ _ => simp [opqD, tupN] at hx
    | _ => simp [opqD] at hx
  | l h t => simp [opqD] at hx
theorem VS.tpn_ {ds : List D} (e : Ex Hf H) : VS K Hf H v (tupN ds) → ∃ l o xs, v = .ref l ∧ Hf l = some (.frz o (.tup xs)) ∧ H l = some (.frz o (.tup xs)) ∧ o.dict = none ∧ DvA K Hf xs ds := by
  intro h
  generalize hx : tupN ds = x at h
  cases h with
  | f h =>
    cases h with
    | tpn h d t =>
      simp only [tupN, PyData.dict.injEq, List.cons.injEq, Prod.mk.injEq, PyData.tuple.injEq, true_and, and_true] at hx
      subst hx
      exact ⟨_, _, _, rfl, h, e _ _ h, d, t⟩
    | scr h => simp [scrD, tupN] at hx
    | opq h => simp [tupN, opqD] at hx
    | _ => simp [tupN] at hx
  | l h t => simp [tupN] at hx
theorem dv_of_tpn {l : Addr} {o : Obj} {xs : List V} {ds : List D} (h : H l = some (.frz o (.tup xs))) (t : DvA K H xs ds) : Dv K H (.ref l) (.tuple ds) := .tup (.inl (.inr ⟨o, h⟩)) t
/-- as data over the whole heap -/
theorem VS.all {x : D} (e : Ex Hf H) : VS K Hf H v x → Dv K H v x
  | .f h => h.mono e
  | .l h t => .lst h (t.mono e)
end
end FR

/-! FrAa: rules that the hand layer lacks: t[::-1], t.index(x), t * 1, sorted(t) -/
namespace FR
open PySem PySem.Spec PyProof.Rows L2 HT

section
variable {prog : Program} {w : World} {A : Around} {E : Value → Shared → Prop} {s : Shared}
/-! ### t[::-1] -/
theorem adjust_rev (n : Nat) : Builtin.Slice.sliceAdjust none none (-1) (n : Int) = ((n : Int) - 1, -1) := rfl
theorem places_rev (n : Nat) : Builtin.Slice.slicePlaces ((n : Int) - 1) (-1) (-1) = n := by
  unfold Builtin.Slice.slicePlaces
  have h1 : ¬ ((-1 : Int) > 0) := by omega
  simp only [h1, if_false]
  split
  · have : ((n : Int) - 1 - -1 - 1) / (- -1) = (n : Int) - 1 := by
      have e : (- -1 : Int) = 1 := by omega
      rw [e, Int.ediv_one]; omega
    rw [this]; omega
  · omega
theorem sliceApplied_rev {sl : Addr} {vl vu vs : Value} {n : Nat} {Q : Int × Int × Nat → Shared → Prop} (hs : s.heap.IsSliceOf sl vl vu vs) (pl : IsPart vl none) (pu : IsPart vu none) (ps : IsPart vs (some (-1)))
    (h : Q ((n : Int) - 1, -1, n) s) : wpAny (model prog w) A (Builtin.Slice.sliceApplied (.ref sl) (pure (n : Int))) Q E s := by
  obtain ⟨os, hos, hcs, hds⟩ := id hs
  unfold Builtin.Slice.sliceApplied Builtin.Slice.sliceFields
  refine wpAny_bind (wpAny_bind (wpAny_field hos hds (x := vl) rfl (wpAny_bind (wpAny_field hos hds (x := vu) rfl (wpAny_bind (wpAny_field hos hds (x := vs) rfl (wpAny_pure ?_)))))))
  refine wpAny_bind (slicePart_ ps ?_)
  show wpAny _ _ (if ((-1 : Int) == 0) = true then _ else _) _ _ s
  rw [if_neg (by decide)]
  refine wpAny_bind (slicePart_ pl (wpAny_bind (slicePart_ pu (wpAny_bind (wpAny_pure ?_)))))
  show wpAny _ _ (match Builtin.Slice.sliceAdjust none none (-1) (n : Int) with | (lo, hi) => pure (lo, (-1 : Int), Builtin.Slice.slicePlaces lo hi (-1))) _ _ s
  rw [adjust_rev]
  show wpAny _ _ (pure ((n : Int) - 1, (-1 : Int), Builtin.Slice.slicePlaces ((n : Int) - 1) (-1) (-1))) _ _ s
  rw [places_rev]
  exact wpAny_pure h
theorem fm_range {f : Nat → Option Value} : ∀ (ys : List Value), (∀ k y, ys[k]? = some y → f k = some y) → (List.range ys.length).filterMap f = ys := by
  intro ys
  suffices h : ∀ (n : Nat) (ys : List Value), ys.length = n → (∀ k y, ys[k]? = some y → f k = some y) → (List.range n).filterMap f = ys from h _ ys rfl
  intro n
  induction n with
  | zero => intro ys e _; rw [List.eq_nil_of_length_eq_zero e]; rfl
  | succ n ih =>
    intro ys e h
    have h0 : ys ≠ [] := fun z => by subst z; cases e
    obtain ⟨zs, y, rfl⟩ : ∃ zs y, ys = zs ++ [y] := ⟨ys.dropLast, ys.getLast h0, (List.dropLast_concat_getLast h0).symm⟩
    have e' : zs.length = n := by rw [List.length_append, List.length_singleton] at e; omega
    subst e'
    rw [List.range_succ, List.filterMap_append, ih zs rfl fun k z e => h k z (by rw [List.getElem?_append_left (List.getElem?_eq_some_iff.mp e).1]; exact e)]
    rw [List.filterMap_cons_some (h zs.length y (by simp))]
    rfl
theorem pick_rev (xs : List Value) : ((List.range xs.length).filterMap fun (k : Nat) => xs.toArray[((xs.length : Int) - 1 + (k : Int) * (-1)).toNat]?).toArray = xs.reverse.toArray := by
  congr 1
  have z := fm_range (f := fun (k : Nat) => xs.toArray[((xs.length : Int) - 1 + (k : Int) * (-1)).toNat]?) xs.reverse fun k y e => by
    have hk : k < xs.length := by have := (List.getElem?_eq_some_iff.mp e).1; rwa [List.length_reverse] at this
    rw [List.getElem?_reverse hk] at e
    have e1 : ((xs.length : Int) - 1 + (k : Int) * (-1)).toNat = xs.length - 1 - k := by omega
    show xs.toArray[_]? = some y
    rw [e1, List.getElem?_toArray]
    exact e
  rw [List.length_reverse] at z
  exact z
theorem getItem_tuple_rev {t sl : Addr} {xs : List Value} {vl vu vs : Value} {Q : Value → Shared → Prop} (ht : IsTup s.heap t xs.toArray) (hs : s.heap.IsSliceOf sl vl vu vs) (pl : IsPart vl none) (pu : IsPart vu none) (ps : IsPart vs (some (-1)))
    (h : Q (.ref s.heap.objs.size) { s with heap := s.heap.push { cls := .type "tuple", data := .seq xs.reverse.toArray } }) (hsz : xs.length ≤ sizeLine) : wpAny (model prog w) A (getItem (.ref t) (.ref sl)) Q E s := by
  have htake : sizeOk (.seq xs.reverse.toArray) := by
    show xs.reverse.toArray.size ≤ sizeLine
    rw [List.size_toArray, List.length_reverse]
    exact hsz
  obtain ⟨os, hos, hcs, hds⟩ := id hs
  have hTs : s.TypeIs (.ref sl) "slice" := ⟨os, hos, hcs⟩
  unfold getItem
  try with_reducible refine wpAny_holding ?_
  first | refine wpAny_bind (wpAny_pure ?_) | skip
  refine wpAny_bind (wpAny_sequenceKey ht.typeIs (by decide) ?_)
  refine wpAny_bind (wpAny_callSpecial?_slot (name := Str.ofString "__getitem__") ht.typeIs PyProof.Rows.slot_tuple_getitem
    (wpAny_call_entry PyProof.Rows.slot_tuple_getitem ht.typeIs entry_tuple_getitem ?_ (args_tuple_getitem _ _)))
  show wpAny _ _ (Builtin.Tuple.tupleItemsOf (.ref t) >>= _) _ _ s
  refine wpAny_bind (tupleItemsOf_ ht ?_)
  refine wpAny_bind (wpAny_typeOf hTs ?_)
  rw [if_pos (by decide)]
  refine wpAny_bind (sliceApplied_rev hs pl pu ps ?_)
  have hno : ¬ ((((xs.toArray.size : Int) - 1) == 0 && (-1 : Int) == 1 && xs.toArray.size == xs.toArray.size) = true) := by
    intro q
    rw [Bool.and_eq_true, Bool.and_eq_true] at q
    exact absurd q.1.2 (by decide)
  show wpAny _ _ (if (((xs.toArray.size : Int) - 1) == 0 && (-1 : Int) == 1 && xs.toArray.size == xs.toArray.size) = true then _ else _) _ _ s
  rw [if_neg hno, List.size_toArray, pick_rev]
  first
    | exact wpAny_bind (m := Builtin.Tuple.tupleExact _) (wpAny_newObj_type (wpAny_pure ⟨_, rfl, wpAny_pure h⟩) htake)
    | exact wpAny_bind (m := Builtin.Tuple.tupleExact _) (wpAny_newObj_type (wpAny_bind (wpAny_pure (wpAny_pure ⟨_, rfl, wpAny_pure h⟩))) htake)
    | exact wpAny_bind (wpAny_bind (m := Builtin.Tuple.tupleExact _) (wpAny_newObj_type (wpAny_pure (wpAny_pure ⟨_, rfl, wpAny_pure h⟩)) htake))
    | exact wpAny_bind (wpAny_bind (m := Builtin.Tuple.tupleExact _) (wpAny_newObj_type (wpAny_pure ⟨_, rfl, wpAny_pure h⟩) htake))
end
/-- x[::-1], a list or a tuple -/
def tRevA (K : PySem.W.Frag) (te : TE) : TE := fun σ H Q => te σ H fun x H1 => ∃ a xs, x = .ref a ∧ ((SqL K H1 a xs ∧ ∀ p, H1 p = none → Q (.ref p) (upd H1 p (.lst xs.reverse))) ∨ (SqT K H1 a xs ∧ ∀ p, H1 p = none → Q (.ref p) (upd H1 p (.tup xs.reverse))))
theorem pe_revA {X : Cx} {e : Expr} {te : TE} {k : Nat} {p1 p2 p3 pos : Pos} (he : PE X e te) : PE X (.Subscript e (.Slice none none (some (.UnaryOp .USub (.Constant (.int 1) k p1) p2)) p3) pos) (tRevA X.K te) := by
  refine ⟨fun pins s σ H Q I h => ?_⟩
  refine Subscript_ (thn (he.run pins s σ H _ I h) fun v s1 ⟨x, H1, I1, r1, q1⟩ => ?_)
  obtain ⟨a, xs, ex, hx⟩ := q1
  subst ex
  cases r1
  have hst : PO X (some (.UnaryOp .USub (.Constant (.int 1) k p1) p2)) (tPart (tUn (rU fun i => .int (-i)) (tC (.int 1)))) := po_some (pe_un un_neg pe_int)
  refine wpAny_Slice (thn (po_none.run pins s1 σ H1 (fun o H2 => o = none ∧ H2 = H1) I1 ⟨rfl, rfl⟩) fun vl s2 ⟨l, H2, I2, pl, el, e2⟩ => ?_)
  subst el e2
  refine thn (po_none.run pins s2 σ H2 (fun o H3 => o = none ∧ H3 = H2) I2 ⟨rfl, rfl⟩) fun vu s3 ⟨u, H3, I3, pu, eu, e3⟩ => ?_
  subst eu e3
  refine thn (hst.run pins s3 σ H3 (fun o H4 => o = some (-1) ∧ H4 = H3) I3 ⟨1, rfl, -1, rfl, rfl, rfl⟩) fun vs s4 ⟨o, H4, I4, ps, eo, e4⟩ => ?_
  subst eo e4
  have I5 : Inv X pins σ H4 { s4 with heap := s4.heap.push { cls := .type "slice", data := .fields #[vl, vu, vs] } } := I4.kept (t' := s4.toks) fun b ob q => Heap.get?_push_of_some _ q
  show wpAny (model X.prog X.w) X.A (subscriptTail e (.Slice none none (some (.UnaryOp .USub (.Constant (.int 1) k p1) p2)) p3) (.ref a) (.ref s4.heap.objs.size)) (EP X pins σ Q) X.xe { s4 with heap := s4.heap.push { cls := .type "slice", data := .fields #[vl, vu, vs] } }
  rcases hx with ⟨hx, q⟩ | ⟨hx, q⟩
  · obtain ⟨its, r, ht, hz⟩ := I5.list hx
    have hlen := r.length
    refine tail_any (ops := [.ref a, .ref s4.heap.objs.size]) ht.isList.typeIs (PySem.slot_list_getitem.lookup) ?_ (by with_unfolding_all rfl)
    refine wpAny_getItem_list_slice ht.isList (Heap.IsSliceOf.new _ vl vu vs) pl pu ps (by decide) ?_ (by rw [List.size_toArray]; omega)
    rw [PySem.W.krv_pick]
    refine ⟨.ref _, _, I5.laid (t' := s4.toks) (o := .lst xs.reverse) (fun b ob q => Heap.get?_push_of_some _ q) (Nat.le_refl _) ?_, rfl, q _ (I5.hok.fresh (Nat.le_refl _))⟩
    exact ⟨by rw [List.length_reverse]; exact hz, _, 0, r.reverse, Heap.get?_push_size _ rfl⟩
  · obtain ⟨its, r, ht, hz⟩ := I5.tuple hx
    have hlen := r.length
    refine tail_any (ops := [.ref a, .ref s4.heap.objs.size]) ht.typeIs PyProof.Rows.slot_tuple_getitem.lookup ?_ (by with_unfolding_all rfl)
    refine getItem_tuple_rev ht (Heap.IsSliceOf.new _ vl vu vs) pl pu ps ?_ (by omega)
    refine ⟨.ref _, _, I5.laid (t' := s4.toks) (o := .tup xs.reverse) (fun b ob q => Heap.get?_push_of_some _ q) (Nat.le_refl _) ?_, rfl, q _ (I5.hok.fresh (Nat.le_refl _))⟩
    exact ⟨by rw [List.length_reverse]; exact hz, _, r.reverse, IsTup.new _ _⟩

/-! ### t.index(x), l.index(x): flat items, found -/
def rIxT (K : PySem.W.Frag) : V → List V → Hp → VK → Prop := fun x xs H Q => ∃ a ys y j z, x = .ref a ∧ xs = [y] ∧ SqT K H a ys ∧ flatV y = true ∧ ys.all flatV = true ∧ ys[j]? = some z ∧ eqV z y = true ∧ (∀ m z', m < j → ys[m]? = some z' → eqV z' y = false) ∧ Q (.int (j : Nat)) H
theorem mt_tindex {X : Cx} : MtR X "tuple.index" (rIxT X.K) := by
  intro pins s σ H x xs v us Q I rx rxs h
  obtain ⟨a, ys, y, j, z, rfl, rfl, hs, fy, fys, hz, hzj, hno, q⟩ := h
  cases rx
  obtain ⟨uy, rfl, ry⟩ := vals1 rxs
  obtain ⟨its, rv, pl, hlen⟩ := I.tuple hs
  obtain ⟨⟨cls, dd, dt, sl⟩, ho, hc, n, hd⟩ := pl
  simp only at hc hd
  subst hc hd
  obtain ⟨u, hu, ru⟩ := rv.get hz
  obtain ⟨hjl, hje⟩ := List.getElem?_eq_some_iff.mp hu
  have hvl := rv.length
  have hj : j < its.toArray.size := by simpa using hjl
  refine call_meets PySem.F.slot_tuple_index ⟨_, ho, rfl⟩ PySem.F.entry_tuple_index (PySem.F.args_tuple_index_2 _ _)
    (TI.tuple_indexAt a its.toArray n dd sl uy (eqU y) j hj ?_ ?_) ⟨ho, fun u' hu' => mem_eqAt ry fy rv fys u' (by simpa using hu'), ⟨.int (j : Nat), H, I.tok _, ⟨_, rfl⟩, q⟩⟩
  · have e1 : its.toArray[j] = u := by simpa using hje
    rw [e1, eqU_of ru (flat_at fys hz)]
    exact hzj
  · intro m hm hmj
    have hml : m < its.length := by simpa using hm
    have hml' : m < ys.length := by omega
    obtain ⟨u', hu', ru'⟩ := rv.get (i := m) (List.getElem?_eq_getElem hml')
    have e1 : its.toArray[m] = u' := by
      have := (List.getElem?_eq_some_iff.mp hu').2
      simpa using this
    rw [e1, eqU_of ru' (flat_at fys (List.getElem?_eq_getElem hml'))]
    exact hno m _ hmj (List.getElem?_eq_getElem hml')
/-- the receiver: a tuple known to its object -/
def tTix (K : PySem.W.Frag) (to : TE) (t : TA) : TE := fun σ H Q => to σ H fun x H1 => ∃ a o ys, x = .ref a ∧ H1 a = some (.frz o (.tup ys)) ∧ o.dict = none ∧ t σ H1 fun xs H2 => rIxT K x xs H2 Q
theorem pe_tix {X : Cx} {o e : Expr} {to : TE} {t : TA} {apos cpos : Pos} (ho : PE X o to) (ha : PA X [e] t)
    (hbase : attributeBase o "index" X.env (eval o X.env) = eval o X.env) (hs : starEach [e] X.env = [(false, eval e X.env)]) (hline : (apos.endLine == cpos.line) = true) :
    PE X (.Call (.Attribute o "index" apos) [e] [] cpos) (tTix X.K to t) := by
  refine ⟨fun pins s σ H Q I h => ?_⟩
  refine wpAny_Call_method_late hbase (by rw [hs]; rfl) hline rfl (thn (ho.run pins s σ H _ I h) fun v s1 ⟨x, H1, I1, r1, a, ob, ys, ex, hH, hd, q1⟩ => ?_)
  subst ex
  cases r1
  obtain ⟨e1, z, its, rv, ob2, e2, hc, hdd⟩ := I1.hok a _ hH
  refine ⟨"tuple", "tuple.index", PySem.F.plainAttrs_tuple, PySem.F.slot_tuple_index, PySem.F.type_tuple_index, ⟨ob2, e2, hc⟩, fun b hb => ?_, ?_⟩
  · cases hb
    exact ⟨ob, e1, hd⟩
  · have hA := ha.run cpos pins s1 σ H1 _ I1 q1
    rw [hs] at hA ⊢
    refine Calls.callWith_builtin (by rfl) (Calls.evalArgs_plain ?_)
    exact thn hA fun us s2 ⟨vs, H2, I2, r2, q2⟩ => mt_tindex pins s2 σ H2 (.ref a) vs (.ref a) us Q I2 rfl r2 q2

/-! ### tuple(xs), known to its object -/
theorem call_tupN {X : Cx} : CallR X (.type "tuple") (fun xs H Q => ∃ p ys, xs = [.ref p] ∧ SqL X.K H p ys ∧ ∀ l o, o.dict = none → H l = none → Q (.ref l) (upd H l (.frz o (.tup ys)))) := by
  intro pins s σ H xs us Q I r h
  obtain ⟨p, ys, rfl, hq, q⟩ := h
  obtain ⟨u, rfl, rx⟩ := vals1 r
  cases rx
  obtain ⟨its, r', pl, hz⟩ := I.list hq
  have hlen := r'.length
  refine PySem.call_tuple_list pl.isList (fun h' kp => ?_) (by rw [List.size_toArray]; omega)
  have I1 : Inv X pins σ H { s with heap := h' } := I.kept (t' := s.toks) kp
  have g : (h'.push { cls := .type "tuple", data := .seq its.toArray }).get? h'.objs.size = some { cls := .type "tuple", data := .seq its.toArray } := Heap.get?_push_size _ rfl
  refine ⟨.ref h'.objs.size, _, I1.laid (t' := s.toks) (o := .frz { cls := .type "tuple", data := .seq its.toArray } (.tup ys)) (fun b o e => Heap.get?_push_of_some _ e) (Nat.le_refl _) ⟨g, hz, its, r', _, g, rfl, _, rfl⟩, rfl, q _ _ rfl (I1.hok.fresh (Nat.le_refl _))⟩

/-! ### t * 1 -/
theorem tuple_mul1 (l : Addr) (items : Array Value) (n : Nat) (dd : Option Addr) (sl : Array (Option Value)) (u : Tok) :
    Meets (Builtin.«tuple.__mul__» ⟨[.ref l, .int 1 u], []⟩) (fun _ R s => s.heap.get? l = some { cls := .type "tuple", dict := dd, data := .seq items n, slots := sl } ∧ R (.ok (.ret (Value.ref l))) s) :=
  .of_wp fun prog w A R s h => by
    obtain ⟨hp, g, d, tk, os⟩ := s
    obtain ⟨hl, h⟩ := h
    have f1 := AutoSeq1.idx_int
    wp_walk using AutoSeq1.wpAny_loadPart' hl
    exact ⟨_, rfl, h⟩
section
variable {X : Cx}
theorem op_rep1 : OpR X (binaryOp .Mult) (fun x y H Q => ∃ l xs, x = .ref l ∧ y = .int 1 ∧ SqT X.K H l xs ∧ Q (.ref l) H) := by
  rintro pins s σ H x y v u Q I rx ry ⟨l, xs, rfl, rfl, hT, q⟩
  cases rx
  obtain ⟨t, rfl⟩ := ry
  obtain ⟨its, r, ⟨ob, ho, hc, n, hd⟩, hz⟩ := I.tuple hT
  obtain ⟨cls, dd, data, sl⟩ := ob
  have e1 : cls = .type "tuple" := hc
  have e2 : data = .seq its.toArray n := hd
  subst e1 e2
  have inner : wpAny (model X.prog X.w) X.A (call (.builtin "tuple.__mul__") [.ref l, .int 1 t]) (EP X pins σ Q) X.xe s :=
    call_meets PySem.F.slot_tuple_mul ⟨_, ho, rfl⟩ PySem.F.entry_tuple_mul (PySem.F.args_tuple_mul_2 _ _) (tuple_mul1 l its.toArray n dd sl t) ⟨ho, .ref l, H, I, rfl, q⟩
  have outer : wpAny (model X.prog X.w) X.A (call (.builtin "int.__rmul__") [.int 1 t, .ref l]) (fun r s' => r = .notImplemented ∧ s' = s) X.xe s :=
    call_meets PySem.F.slot_int_rmul (typeIs_int s 1 t) PySem.F.entry_int_rmul (PySem.F.args_int_rmul_2 _ _) (int_rmul_tuple 1 t l its.toArray n dd sl) ⟨ho, rfl, rfl⟩
  refine wpAny_binaryOp_repeat_ref (T := "tuple") (U := "int") (by decide) ⟨_, ho, rfl⟩ (fun s' => typeIs_int s' 1 t) noFill_tuple_mul PySem.F.fills_int_mul PySem.F.slot_int_rmul repeat_tuple PySem.F.slot_int_index.lookup
    (wpAny_mono outer (fun r s' ⟨e1, e2⟩ => ?_) fun _ _ e => e)
  subst e1 e2
  exact ⟨rfl, ⟨_, ho, rfl⟩, inner⟩

/-! ### sorted(t), a tuple of ints -/
theorem sorted_tup {pins : List (Addr × Obj)} {s : Shared} {σ : L2.St} {H : Hp} {a : Addr} {ns : List Int} {Q : VK} (I : Inv X pins σ H s) (hs : SqT X.K H a (ns.map V.int))
    (q : ∀ (ms : List Int) (p : Addr), ms.Perm ns → ms.Pairwise (· ≤ ·) → H p = none → Q (.ref p) (upd H p (.lst (ms.map V.int)))) : wpAny (model X.prog X.w) X.A (call (.builtin "sorted") [.ref a]) (EP X pins σ Q) X.xe s := by
  obtain ⟨its, rv, ⟨ob, ho, hc, n, hd⟩, hz⟩ := I.tuple hs
  have hi := rv.ints
  have hl := rv.length
  rw [List.length_map] at hl hz
  refine Calls.call_function_entry kind_sorted plain_sorted entry_sorted (args_sorted1 _) ?_
  unfold Builtin.«sorted»
  refine wpAny_bind (m := checkCount "sorted" 1 1 _) (wpAny_pure ?_)
  refine wpAny_bind (wpAny_collect_seq a (.inr rfl) ho hc hd (fun h1 k1 => ?_) (by rw [List.size_toArray]; omega))
  have I1 : Inv X pins σ H { s with heap := h1 } := I.kept (t' := s.toks) k1
  refine wpAny_bind (wpAny_newList ?_ (by show its.length ≤ _; omega))
  have g : (h1.push (seqObj "list" its.toArray 0)).get? h1.objs.size = some (seqObj "list" its.toArray 0) := Heap.get?_push_size _ rfl
  refine wpAny_bind (wpAny_holding (wpAny_call_entry slot_list_sort ⟨_, g, rfl⟩ entry_list_sort
    (SrtO.list_sort_ord SrtO.swo_int g (by omega) (fun h2 => SrtO.ints_sortable hi h2) fun out s1 s2 => ⟨_, rfl, ?_⟩) (args_list_sort _)))
  refine wpAny_pure ⟨_, rfl, ?_⟩
  obtain ⟨c1, c2, c3⟩ := SrtO.ints_out hi s1 s2
  obtain ⟨ep, e⟩ := PyProof.Rows.sortedHeap_at (vs := its) (out := out.toArray) g
  refine ⟨.ref _, upd H h1.objs.size (.lst ((out.map SrtO.iv).map V.int)), I1.laid (t' := s.toks) (fun b ob2 hb => ?_) (Nat.le_refl _) ⟨by rw [List.length_map, c2.length_eq]; exact hz, out, ep, vals_of_ints c1, e⟩, rfl, q _ _ c2 c3 (I1.hok.fresh (Nat.le_refl _))⟩
  have hlt : b < h1.objs.size := Heap.lt_size hb
  rw [PyProof.Rows.sortedHeap_old (Nat.ne_of_lt hlt) (by rw [size_push']; exact Nat.lt_succ_of_lt hlt)]
  exact Heap.get?_push_of_some _ hb
theorem cr_sortedT : CallR X (.builtin "sorted") (fun vs H Q => ∃ (a : Addr) (ns : List Int), vs = [V.ref a] ∧ SqT X.K H a (ns.map V.int) ∧ ∀ (ms : List Int) (p : Addr), ms.Perm ns → ms.Pairwise (· ≤ ·) → H p = none → Q (.ref p) (upd H p (.lst (ms.map V.int)))) := by
  rintro pins s σ H vs us Q I r ⟨a, ns, rfl, hs, q⟩
  rw [Vals.ref1 r]
  exact sorted_tup I hs q
end
end FR

/-! FrB: operations on data, by values -/
namespace FR
open PySem L2

abbrev KD := (D → Prop)
/-- a two-place operation on data: what it asks, what it gives -/
abbrev C2 := D → D → KD → Prop
def R2D (K : PySem.W.Frag) (c : C2) : R2 := fun x y H Q => ∃ (Hf : Hp) (d e : D) (k : KD), Ex Hf H ∧ VS K Hf H x d ∧ VS K Hf H y e ∧ c d e k ∧ ∀ z, k z → ∀ v Gf G, Ext Hf H Gf G → Dv K Gf v z → Q v G

theorem dvNewL {K : PySem.W.Frag} {Hf H : Hp} {p : Addr} {xs : List V} {ds : List D} (e : Ex Hf H) (n : H p = none) (t : DvA K Hf xs ds) : Dv K (upd Hf p (.lst xs)) (.ref p) (.list ds) :=
  .lst upd_same (t.mono (.new (e.free n)))
theorem dvNewT {K : PySem.W.Frag} {Hf H : Hp} {p : Addr} {xs : List V} {ds : List D} (e : Ex Hf H) (n : H p = none) (t : DvA K Hf xs ds) : Dv K (upd Hf p (.tup xs)) (.ref p) (.tuple ds) :=
  .tup (.of upd_same) (t.mono (.new (e.free n)))
theorem DvA.rep {K : PySem.W.Frag} {H : Hp} {xs : List V} {ds : List D} (t : DvA K H xs ds) : ∀ n : Nat, DvA K H (List.replicate n xs).flatten (List.replicate n ds).flatten
  | 0 => .nil
  | n + 1 => by rw [List.replicate_succ, List.replicate_succ, List.flatten_cons, List.flatten_cons]; exact t.app (t.rep n)

/-! ### arithmetic -/
def addC : C2
  | .int i, .int j, k => k (.int (i + j))
  | .str x, .str y, k => x.length + y.length ≤ sizeLine ∧ k (.str (x ++ y))
  | .list xs, .list ys, k => xs.length + ys.length ≤ sizeLine ∧ k (.list (xs ++ ys))
  | .tuple xs, .tuple ys, k => xs.length + ys.length ≤ sizeLine ∧ k (.tuple (xs ++ ys))
  | _, _, _ => False
def subC : C2
  | .int i, .int j, k => k (.int (i - j))
  | _, _, _ => False
def mulC : C2
  | .int i, .int j, k => (CMul i j ∨ CMulW i j) ∧ k (.int (i * j))
  | .list xs, .int n, k => -(2 ^ 63) ≤ n ∧ n < 2 ^ 63 ∧ xs.length * n.toNat ≤ sizeLine ∧ k (.list (List.replicate n.toNat xs).flatten)
  | .tuple xs, .int n, k => (n = 1 ∧ k (.tuple xs)) ∨ (xs ≠ [] ∧ 2 ≤ n ∧ n ≤ 1000 ∧ xs.length ≤ 1000 ∧ k (.tuple (List.replicate n.toNat xs).flatten))
  | _, _, _ => False
def modC : C2
  | .int i, .int j, k => 0 < j ∧ k (.int (i % j))
  | _, _, _ => False
def fdivC : C2
  | .int i, .int j, k => (CDiv i j ∨ CDivW i j) ∧ k (.int (i / j))
  | _, _, _ => False
def powC : C2
  | .int i, .int j, k => CPow i j ∧ k (.int (i ^ j.toNat))
  | _, _, _ => False

section
variable {X : Cx}
theorem op_addD : OpR X (binaryOp .Add) (R2D X.K addC) := by
  intro pins s σ H x y v u Q I rx ry ⟨Hf, d, e, k, sub, hx, hy, hc, hk⟩
  cases d <;> cases e <;> first | exact hc.elim | skip
  · rw [hx.int_] at rx; rw [hy.int_] at ry
    exact op_add pins s σ H _ _ v u Q I rx ry ⟨_, _, rfl, rfl, hk _ hc _ _ _ (.refl sub) (.int _)⟩
  · rw [hx.str_] at rx; rw [hy.str_] at ry
    exact op_add_str pins s σ H _ _ v u Q I rx ry ⟨_, _, rfl, rfl, hc.1, hk _ hc.2 _ _ _ (.refl sub) (.str _)⟩
  · obtain ⟨l, xs, rfl, hl, tx⟩ := hx.lst_ sub
    obtain ⟨m, ys, rfl, hm, ty⟩ := hy.lst_ sub
    exact op_cat pins s σ H _ _ v u Q I rx ry ⟨l, m, xs, ys, rfl, rfl, hl, hm, by rw [tx.length, ty.length]; exact hc.1, fun p hp => hk _ hc.2 _ _ _ (.new sub hp) (dvNewL sub hp (tx.app ty))⟩
  · obtain ⟨l, xs, rfl, hl, tx⟩ := hx.tup_ sub
    obtain ⟨m, ys, rfl, hm, ty⟩ := hy.tup_ sub
    have lx := tx.length
    have ly := ty.length
    refine op_catA pins s σ H _ _ v u Q I rx ry ⟨l, m, xs, ys, rfl, rfl, hl, hm, by rw [lx, ly]; exact hc.1, fun e0 => ?_, fun _ e0 => ?_, fun _ _ p hp => hk _ hc.2 _ _ _ (.new sub hp) (dvNewT sub hp (tx.app ty))⟩
    · subst e0; cases tx
      cases hy with
      | f h => exact hk _ hc.2 _ _ _ (.refl sub) h
    · subst e0; cases ty
      have hc2 := hc.2
      rw [List.append_nil] at hc2
      cases hx with
      | f h => exact hk _ hc2 _ _ _ (.refl sub) h
theorem op_subD : OpR X (binaryOp .Sub) (R2D X.K subC) := by
  intro pins s σ H x y v u Q I rx ry ⟨Hf, d, e, k, sub, hx, hy, hc, hk⟩
  cases d <;> cases e <;> first | exact hc.elim | skip
  rw [hx.int_] at rx; rw [hy.int_] at ry
  exact op_sub pins s σ H _ _ v u Q I rx ry ⟨_, _, rfl, rfl, hk _ hc _ _ _ (.refl sub) (.int _)⟩
theorem op_mulD : OpR X (binaryOp .Mult) (R2D X.K mulC) := by
  intro pins s σ H x y v u Q I rx ry ⟨Hf, d, e, k, sub, hx, hy, hc, hk⟩
  cases d <;> cases e <;> first | exact hc.elim | skip
  · rw [hx.int_] at rx; rw [hy.int_] at ry
    rcases hc with ⟨h | h, hc⟩
    · exact op_mul pins s σ H _ _ v u Q I rx ry ⟨_, _, rfl, rfl, h, hk _ hc _ _ _ (.refl sub) (.int _)⟩
    · exact op_mulW pins s σ H _ _ v u Q I rx ry ⟨_, _, rfl, rfl, h, hk _ hc _ _ _ (.refl sub) (.int _)⟩
  · obtain ⟨l, xs, rfl, hl, tx⟩ := hx.lst_ sub
    rw [hy.int_] at ry
    exact op_rep pins s σ H _ _ v u Q I rx ry ⟨l, _, xs, rfl, rfl, hl, hc.1, hc.2.1, by rw [tx.length]; exact hc.2.2.1, fun p hp => hk _ hc.2.2.2 _ _ _ (.new sub hp) (dvNewL sub hp (tx.rep _))⟩
  · have hx' := hx
    obtain ⟨l, xs, rfl, hl, tx⟩ := hx.tup_ sub
    rw [hy.int_] at ry
    rcases hc with ⟨rfl, hc⟩ | ⟨c1, c2, c3, c4, c5⟩
    · cases hx' with
      | f h => exact op_rep1 pins s σ H _ _ v u Q I rx ry ⟨l, xs, rfl, rfl, hl, hk _ hc _ _ _ (.refl sub) h⟩
    exact op_repT pins s σ H _ _ v u Q I rx ry ⟨l, _, xs, rfl, rfl, hl, fun e => c1 (by subst e; cases tx; rfl), c2, c3, by rw [tx.length]; exact c4, fun p hp => hk _ c5 _ _ _ (.new sub hp) (dvNewT sub hp (tx.rep _))⟩
theorem op_modD : OpR X (binaryOp .Mod) (R2D X.K modC) := by
  intro pins s σ H x y v u Q I rx ry ⟨Hf, d, e, k, sub, hx, hy, hc, hk⟩
  cases d <;> cases e <;> first | exact hc.elim | skip
  rw [hx.int_] at rx; rw [hy.int_] at ry
  exact op_mod pins s σ H _ _ v u Q I rx ry ⟨_, _, rfl, rfl, hc.1, hk _ hc.2 _ _ _ (.refl sub) (.int _)⟩
theorem op_fdivD : OpR X (binaryOp .FloorDiv) (R2D X.K fdivC) := by
  intro pins s σ H x y v u Q I rx ry ⟨Hf, d, e, k, sub, hx, hy, hc, hk⟩
  cases d <;> cases e <;> first | exact hc.elim | skip
  rw [hx.int_] at rx; rw [hy.int_] at ry
  rcases hc with ⟨h | h, hc⟩
  · exact op_fdiv pins s σ H _ _ v u Q I rx ry ⟨_, _, rfl, rfl, h, hk _ hc _ _ _ (.refl sub) (.int _)⟩
  · exact op_fdivW pins s σ H _ _ v u Q I rx ry ⟨_, _, rfl, rfl, h, hk _ hc _ _ _ (.refl sub) (.int _)⟩
theorem op_powD : OpR X (binaryOp .Pow) (R2D X.K powC) := by
  intro pins s σ H x y v u Q I rx ry ⟨Hf, d, e, k, sub, hx, hy, hc, hk⟩
  cases d <;> cases e <;> first | exact hc.elim | skip
  rw [hx.int_] at rx; rw [hy.int_] at ry
  exact op_pow pins s σ H _ _ v u Q I rx ry ⟨_, _, rfl, rfl, hc.1, hk _ hc.2 _ _ _ (.refl sub) (.int _)⟩
end

/-! ### comparisons -/
def flatD : D → Bool
  | .none | .bool _ | .int _ | .str _ => true
  | _ => false
theorem flat_v {K : PySem.W.Frag} {H : Hp} {v : V} {d : D} (h : Dv K H v d) (e : flatD d = true) : flatV v = true := by
  cases h <;> first | rfl | cases e
theorem flat_all {K : PySem.W.Frag} {H : Hp} : ∀ {ds : List D} {vs : List V}, DvA K H vs ds → ds.all flatD = true → vs.all flatV = true := by
  intro ds
  induction ds with
  | nil => intro vs t _; cases t; rfl
  | cons d ds ih =>
    intro vs t e
    cases t with
    | cons h t =>
      rw [List.all_cons, Bool.and_eq_true] at e ⊢
      exact ⟨flat_v h e.1, ih t e.2⟩
theorem flat_eqv {K : PySem.W.Frag} {H : Hp} {v w : V} {d e : D} (h1 : Dv K H v d) (h2 : Dv K H w e) (f1 : flatD d = true) (f2 : flatD e = true) : eqV v w = PyData.eqv d e := by
  cases h1 <;> first | (cases f1; done) | (cases h2 <;> first | (cases f2; done) | (simp only [eqV, PyData.eqv]; done) | rfl)
theorem flat_in {K : PySem.W.Frag} {H : Hp} {v : V} {d : D} (h : Dv K H v d) (hd : flatD d = true) : ∀ {ds : List D} {vs : List V}, DvA K H vs ds → ds.all flatD = true → inV v vs = ds.any fun z => PyData.eqv z d := by
  intro ds
  induction ds with
  | nil => intro vs t _; cases t; rfl
  | cons e ds ih =>
    intro vs t a
    cases t with
    | cons q t =>
      rw [List.all_cons, Bool.and_eq_true] at a
      have z := ih t a.2
      unfold inV at z ⊢
      rw [List.any_cons, List.any_cons, flat_eqv q h a.1 hd, z]

/-- == of data: of two flat ones, or of two that are shaped -/
def eqOk (d e : D) : Prop := (∃ i j, d = .int i ∧ e = .int j) ∨ (∃ i j, d = .str i ∧ e = .str j) ∨ (∃ i j, d = .bool i ∧ e = .bool j) ∨ (plain d = true ∧ plain e = true ∧ SeqAt.shaped d = true ∧ SeqAt.shaped e = true)
def eqC : C2 := fun d e k => eqOk d e ∧ k (.bool (PyData.eqv d e))
def neC : C2 := fun d e k => eqOk d e ∧ k (.bool (!PyData.eqv d e))
def ltC : C2
  | .int i, .int j, k => k (.bool (decide (i < j)))
  | .str i, .str j, k => k (.bool (decide (i.cps.toList < j.cps.toList)))
  | _, _, _ => False
def leC : C2
  | .int i, .int j, k => k (.bool (decide (i ≤ j)))
  | _, _, _ => False
def gtC : C2
  | .int i, .int j, k => k (.bool (decide (j < i)))
  | _, _, _ => False
def geC : C2
  | .int i, .int j, k => k (.bool (decide (j ≤ i)))
  | _, _, _ => False
def noneD : D → Bool
  | .none => true
  | _ => false
def isNC : C2 := fun d e k => e = .none ∧ k (.bool (noneD d))
def notNC : C2 := fun d e k => e = .none ∧ k (.bool (!noneD d))
/-- x in y -/
def inOk (d : D) (ds : List D) : Prop := (flatD d = true ∧ ds.all flatD = true) ∨ (plain d = true ∧ plainA ds = true ∧ SeqAt.shaped d = true ∧ SeqAt.shaped (.list ds) = true)
def inC (neg : Bool) : C2
  | d, .list ds, k => inOk d ds ∧ k (.bool (xor neg (ds.any fun z => PyData.eqv z d)))
  | d, .tuple ds, k => inOk d ds ∧ k (.bool (xor neg (ds.any fun z => PyData.eqv z d)))
  | .str x, .str y, k => ∃ c, x = ⟨#[c]⟩ ∧ k (.bool (xor neg (decide (c ∈ y.cps.toList))))
  | _, _, _ => False

section
variable {X : Cx}
theorem op_eqD' (hu : X.A.units + 64 < cLine) : OpR X (compareOp .Eq) (R2D X.K eqC) := by
  intro pins s σ H x y v u Q I rx ry ⟨Hf, d, e, k, sub, hx, hy, hc, hk⟩
  obtain ⟨c, hc⟩ := hc
  have fin := hk _ hc _ _ _ (.refl sub) (.bl _)
  rcases c with ⟨i, j, rfl, rfl⟩ | ⟨i, j, rfl, rfl⟩ | ⟨i, j, rfl, rfl⟩ | ⟨p1, p2, s1, s2⟩
  · rw [hx.int_] at rx; rw [hy.int_] at ry
    exact op_eq pins s σ H _ _ v u Q I rx ry ⟨rfl, by rw [dec_int]; simpa only [PyData.eqv] using fin⟩
  · rw [hx.str_] at rx; rw [hy.str_] at ry
    exact op_eq pins s σ H _ _ v u Q I rx ry ⟨rfl, by rw [dec_str]; simpa only [PyData.eqv] using fin⟩
  · rw [hx.bl_] at rx; rw [hy.bl_] at ry
    exact op_eq pins s σ H _ _ v u Q I rx ry ⟨rfl, by rw [dec_bl]; simpa only [PyData.eqv] using fin⟩
  · exact op_eqD hu pins s σ H _ _ v u Q I rx ry ⟨d, e, (hx.all sub).dp p1, (hy.all sub).dp p2, s1, s2, fin⟩
theorem op_neD' (hu : X.A.units + 64 < cLine) : OpR X (compareOp .NotEq) (R2D X.K neC) := by
  intro pins s σ H x y v u Q I rx ry ⟨Hf, d, e, k, sub, hx, hy, hc, hk⟩
  obtain ⟨c, hc⟩ := hc
  have fin := hk _ hc _ _ _ (.refl sub) (.bl _)
  rcases c with ⟨i, j, rfl, rfl⟩ | ⟨i, j, rfl, rfl⟩ | ⟨i, j, rfl, rfl⟩ | ⟨p1, p2, s1, s2⟩
  · rw [hx.int_] at rx; rw [hy.int_] at ry
    exact op_ne pins s σ H _ _ v u Q I rx ry ⟨rfl, by rw [dec_int]; simpa only [PyData.eqv] using fin⟩
  · rw [hx.str_] at rx; rw [hy.str_] at ry
    exact op_ne pins s σ H _ _ v u Q I rx ry ⟨rfl, by rw [dec_str]; simpa only [PyData.eqv] using fin⟩
  · rw [hx.bl_] at rx; rw [hy.bl_] at ry
    exact op_ne pins s σ H _ _ v u Q I rx ry ⟨rfl, by rw [dec_bl]; simpa only [PyData.eqv] using fin⟩
  · exact op_neD hu pins s σ H _ _ v u Q I rx ry ⟨d, e, (hx.all sub).dp p1, (hy.all sub).dp p2, s1, s2, fin⟩
theorem op_ltD : OpR X (compareOp .Lt) (R2D X.K ltC) := by
  intro pins s σ H x y v u Q I rx ry ⟨Hf, d, e, k, sub, hx, hy, hc, hk⟩
  cases d <;> cases e <;> first | exact hc.elim | skip
  · rw [hx.int_] at rx; rw [hy.int_] at ry
    exact op_lt pins s σ H _ _ v u Q I rx ry ⟨_, _, rfl, rfl, hk _ hc _ _ _ (.refl sub) (.bl _)⟩
  · rw [hx.str_] at rx; rw [hy.str_] at ry
    exact op_lt_str pins s σ H _ _ v u Q I rx ry ⟨_, _, rfl, rfl, hk _ hc _ _ _ (.refl sub) (.bl _)⟩
theorem op_leD : OpR X (compareOp .LtE) (R2D X.K leC) := by
  intro pins s σ H x y v u Q I rx ry ⟨Hf, d, e, k, sub, hx, hy, hc, hk⟩
  cases d <;> cases e <;> first | exact hc.elim | skip
  rw [hx.int_] at rx; rw [hy.int_] at ry
  exact op_le pins s σ H _ _ v u Q I rx ry ⟨_, _, rfl, rfl, hk _ hc _ _ _ (.refl sub) (.bl _)⟩
theorem op_gtD : OpR X (compareOp .Gt) (R2D X.K gtC) := by
  intro pins s σ H x y v u Q I rx ry ⟨Hf, d, e, k, sub, hx, hy, hc, hk⟩
  cases d <;> cases e <;> first | exact hc.elim | skip
  rw [hx.int_] at rx; rw [hy.int_] at ry
  exact op_gt pins s σ H _ _ v u Q I rx ry ⟨_, _, rfl, rfl, hk _ hc _ _ _ (.refl sub) (.bl _)⟩
theorem op_geD : OpR X (compareOp .GtE) (R2D X.K geC) := by
  intro pins s σ H x y v u Q I rx ry ⟨Hf, d, e, k, sub, hx, hy, hc, hk⟩
  cases d <;> cases e <;> first | exact hc.elim | skip
  rw [hx.int_] at rx; rw [hy.int_] at ry
  exact op_ge pins s σ H _ _ v u Q I rx ry ⟨_, _, rfl, rfl, hk _ hc _ _ _ (.refl sub) (.bl _)⟩
theorem isN_dec {K : PySem.W.Frag} {H : Hp} {v : V} {d : D} (h : Dv K H v d) : decide (v = .non) = noneD d := by
  cases h <;> rfl
theorem isN_dec' {K : PySem.W.Frag} {H : Hp} {v : V} {d : D} (h : Dv K H v d) : (!decide (v = .non)) = !noneD d := by
  cases h <;> rfl
theorem op_isND : OpR X (compareOp .Is) (R2D X.K isNC) := by
  intro pins s σ H x y v u Q I rx ry ⟨Hf, d, e, k, sub, hx, hy, hc, hk⟩
  obtain ⟨rfl, hc⟩ := hc
  rw [hy.non_] at ry
  exact op_isN pins s σ H _ _ v u Q I rx ry ⟨rfl, hk _ hc _ _ _ (.refl sub) (by rw [isN_dec (hx.all sub)]; exact .bl _)⟩
theorem op_notND : OpR X (compareOp .IsNot) (R2D X.K notNC) := by
  intro pins s σ H x y v u Q I rx ry ⟨Hf, d, e, k, sub, hx, hy, hc, hk⟩
  obtain ⟨rfl, hc⟩ := hc
  rw [hy.non_] at ry
  exact op_notN pins s σ H _ _ v u Q I rx ry ⟨rfl, hk _ hc _ _ _ (.refl sub) (by rw [isN_dec' (hx.all sub)]; exact .bl _)⟩
theorem op_inD' (hu : X.A.units + 65 < cLine) : OpR X (compareOp .In) (R2D X.K (inC false)) := by
  intro pins s σ H x y v u Q I rx ry ⟨Hf, d, e, k, sub, hx, hy, hc, hk⟩
  have seqs : ∀ {ds : List D} {xs : List V} {l : Addr}, y = .ref l → (SqL X.K H l xs ∨ SqT X.K H l xs) → DvA X.K H xs ds → (∃ as, Reads s.heap u (.list ds) as ∨ Reads s.heap u (.tuple ds) as) →
      inOk d ds → k (.bool (xor false (ds.any fun z => PyData.eqv z d))) → wpAny (model X.prog X.w) X.A (compareOp .In v u) (EP X pins σ Q) X.xe s := by
    intro ds xs l e1 sq t rd ok c
    subst e1
    have fin := hk _ c _ _ _ (.refl sub) (.bl _)
    rw [Bool.false_xor] at fin
    rcases ok with ⟨f1, f2⟩ | ⟨p1, p2, s1, s2⟩
    · exact op_in_seq pins s σ H _ _ v u Q I rx ry ⟨l, xs, rfl, sq, flat_v (hx.all sub) f1, flat_all t f2, by
        show Q (.bl (inV x xs)) H
        rw [flat_in (hx.all sub) f1 t f2]; exact fin⟩
    · obtain ⟨as, rd⟩ := rd
      obtain ⟨bs, r1⟩ := Dp.reads I d x v ((hx.all sub).dp p1) rx
      rcases rd with rd | rd
      · exact SeqAt.in_list_reads rd r1 (SeqAt.canLay_of_shaped s2) (SeqAt.canLay_of_shaped s1) (PyProof.Rows.room_in_shaped s1 hu) ⟨.bl _, H, I, rfl, fin⟩
      · refine SeqAt.in_tuple_reads rd r1 ?_ (SeqAt.canLay_of_shaped s1) (PyProof.Rows.room_in_shaped s1 hu) ⟨.bl _, H, I, rfl, fin⟩
        have z := SeqAt.canLay_of_shaped s2
        simpa [PyData.canLay0] using z
  cases e with
  | list ds =>
    obtain ⟨l, xs, e1, hl, t⟩ := hy.lst_ sub
    refine seqs e1 (.inl (.of hl)) (t.mono sub) ?_ hc.1 hc.2
    rcases hc.1 with ⟨f1, f2⟩ | ⟨p1, p2, s1, s2⟩
    · have pl : plainA ds = true := by
        clear hk hc t hl seqs hy
        induction ds with
        | nil => rfl
        | cons z zs ih =>
          rw [List.all_cons, Bool.and_eq_true] at f2
          have : plain z = true := by cases z <;> simp_all [flatD, plain]
          simp [plainA, this, ih f2.2]
      obtain ⟨as, r⟩ := Dp.reads I (.list ds) y u ((hy.all sub).dp (by simpa [plain] using pl)) ry
      exact ⟨as, .inl r⟩
    · obtain ⟨as, r⟩ := Dp.reads I (.list ds) y u ((hy.all sub).dp (by simpa [plain] using p2)) ry
      exact ⟨as, .inl r⟩
  | tuple ds =>
    obtain ⟨l, xs, e1, hl, t⟩ := hy.tup_ sub
    refine seqs e1 (.inr hl) (t.mono sub) ?_ hc.1 hc.2
    rcases hc.1 with ⟨f1, f2⟩ | ⟨p1, p2, s1, s2⟩
    · have pl : plainA ds = true := by
        clear hk hc t hl seqs hy
        induction ds with
        | nil => rfl
        | cons z zs ih =>
          rw [List.all_cons, Bool.and_eq_true] at f2
          have : plain z = true := by cases z <;> simp_all [flatD, plain]
          simp [plainA, this, ih f2.2]
      obtain ⟨as, r⟩ := Dp.reads I (.tuple ds) y u ((hy.all sub).dp (by simpa [plain] using pl)) ry
      exact ⟨as, .inr r⟩
    · obtain ⟨as, r⟩ := Dp.reads I (.tuple ds) y u ((hy.all sub).dp (by simpa [plain] using p2)) ry
      exact ⟨as, .inr r⟩
  | str w =>
    cases d with
    | str z =>
      obtain ⟨c, rfl, hc⟩ := hc
      rw [hx.str_] at rx; rw [hy.str_] at ry
      exact op_in_sign pins s σ H _ _ v u Q I rx ry ⟨c, w, rfl, rfl, by have fin := hk _ hc _ _ _ (.refl sub) (.bl _); simpa only [Bool.false_xor] using fin⟩
    | _ => exact hc.elim
  | _ => cases d <;> exact hc.elim
theorem op_notInD' (hu : X.A.units + 65 < cLine) : OpR X (compareOp .NotIn) (R2D X.K (inC true)) := by
  intro pins s σ H x y v u Q I rx ry ⟨Hf, d, e, k, sub, hx, hy, hc, hk⟩
  have seqs : ∀ {ds : List D} {xs : List V} {l : Addr}, y = .ref l → (SqL X.K H l xs ∨ SqT X.K H l xs) → DvA X.K H xs ds → (∃ as, Reads s.heap u (.list ds) as ∨ Reads s.heap u (.tuple ds) as) →
      inOk d ds → k (.bool (xor true (ds.any fun z => PyData.eqv z d))) → wpAny (model X.prog X.w) X.A (compareOp .NotIn v u) (EP X pins σ Q) X.xe s := by
    intro ds xs l e1 sq t rd ok c
    subst e1
    have fin := hk _ c _ _ _ (.refl sub) (.bl _)
    rw [Bool.true_xor] at fin
    rcases ok with ⟨f1, f2⟩ | ⟨p1, p2, s1, s2⟩
    · exact op_notIn_seq pins s σ H _ _ v u Q I rx ry ⟨l, xs, rfl, sq, flat_v (hx.all sub) f1, flat_all t f2, by
        show Q (.bl (!inV x xs)) H
        rw [flat_in (hx.all sub) f1 t f2]; exact fin⟩
    · obtain ⟨as, rd⟩ := rd
      obtain ⟨bs, r1⟩ := Dp.reads I d x v ((hx.all sub).dp p1) rx
      rcases rd with rd | rd
      · exact SeqAt.notIn_list_reads rd r1 (SeqAt.canLay_of_shaped s2) (SeqAt.canLay_of_shaped s1) (PyProof.Rows.room_in_shaped s1 hu) ⟨.bl _, H, I, rfl, fin⟩
      · refine SeqAt.notIn_tuple_reads rd r1 ?_ (SeqAt.canLay_of_shaped s1) (PyProof.Rows.room_in_shaped s1 hu) ⟨.bl _, H, I, rfl, fin⟩
        have z := SeqAt.canLay_of_shaped s2
        simpa [PyData.canLay0] using z
  cases e with
  | list ds =>
    obtain ⟨l, xs, e1, hl, t⟩ := hy.lst_ sub
    refine seqs e1 (.inl (.of hl)) (t.mono sub) ?_ hc.1 hc.2
    rcases hc.1 with ⟨f1, f2⟩ | ⟨p1, p2, s1, s2⟩
    · have pl : plainA ds = true := by
        clear hk hc t hl seqs hy
        induction ds with
        | nil => rfl
        | cons z zs ih =>
          rw [List.all_cons, Bool.and_eq_true] at f2
          have : plain z = true := by cases z <;> simp_all [flatD, plain]
          simp [plainA, this, ih f2.2]
      obtain ⟨as, r⟩ := Dp.reads I (.list ds) y u ((hy.all sub).dp (by simpa [plain] using pl)) ry
      exact ⟨as, .inl r⟩
    · obtain ⟨as, r⟩ := Dp.reads I (.list ds) y u ((hy.all sub).dp (by simpa [plain] using p2)) ry
      exact ⟨as, .inl r⟩
  | tuple ds =>
    obtain ⟨l, xs, e1, hl, t⟩ := hy.tup_ sub
    refine seqs e1 (.inr hl) (t.mono sub) ?_ hc.1 hc.2
    rcases hc.1 with ⟨f1, f2⟩ | ⟨p1, p2, s1, s2⟩
    · have pl : plainA ds = true := by
        clear hk hc t hl seqs hy
        induction ds with
        | nil => rfl
        | cons z zs ih =>
          rw [List.all_cons, Bool.and_eq_true] at f2
          have : plain z = true := by cases z <;> simp_all [flatD, plain]
          simp [plainA, this, ih f2.2]
      obtain ⟨as, r⟩ := Dp.reads I (.tuple ds) y u ((hy.all sub).dp (by simpa [plain] using pl)) ry
      exact ⟨as, .inr r⟩
    · obtain ⟨as, r⟩ := Dp.reads I (.tuple ds) y u ((hy.all sub).dp (by simpa [plain] using p2)) ry
      exact ⟨as, .inr r⟩
  | str w =>
    cases d with
    | str z =>
      obtain ⟨c, rfl, hc⟩ := hc
      rw [hx.str_] at rx; rw [hy.str_] at ry
      exact op_notIn_sign pins s σ H _ _ v u Q I rx ry ⟨c, w, rfl, rfl, by have fin := hk _ hc _ _ _ (.refl sub) (.bl _); simpa only [Bool.true_xor] using fin⟩
    | _ => exact hc.elim
  | _ => cases d <;> exact hc.elim
end
end FR

/-! FrC: built-in functions and methods on data -/
namespace FR
open PySem L2

inductive BF where
  | len | int | abs | max | min | sum | all | any | sorted | tuple | list | str | ord | repr | bool
  deriving DecidableEq
def BF.val : BF → Value
  | .len => .builtin "len" | .int => .type "int" | .abs => .builtin "abs" | .max => .builtin "max" | .min => .builtin "min"
  | .sum => .builtin "sum" | .all => .builtin "all" | .any => .builtin "any" | .sorted => .builtin "sorted" | .tuple => .type "tuple"
  | .list => .type "list" | .str => .type "str" | .ord => .builtin "ord" | .repr => .builtin "repr" | .bool => .type "bool"

abbrev CC := List D → KD → Prop
abbrev VSA (K : PySem.W.Frag) (Hf H : Hp) : List V → List D → Prop := Paired (VS K Hf H)
def RCD (K : PySem.W.Frag) (c : CC) : List V → Hp → VK → Prop := fun xs H Q => ∃ (Hf : Hp) (ds : List D) (k : KD), Ex Hf H ∧ VSA K Hf H xs ds ∧ c ds k ∧ ∀ z, k z → ∀ v Gf G, Ext Hf H Gf G → Dv K Gf v z → Q v G

def lenC : CC
  | [.list xs], k => k (.int xs.length)
  | [.tuple xs], k => k (.int xs.length)
  | [.str x], k => x.length ≤ sizeLine ∧ k (.int x.length)
  | [.dict [(.none, .list xs)]], k => (∃ ns : List Int, xs = ns.map PyData.int) ∧ k (.int xs.length)
  | _, _ => False
def intC : CC
  | [.int i], k => k (.int i)
  | [.bool b], k => k (.int (if b then 1 else 0))
  | [.str a], k => ∃ n, PySem.intText? a = some n ∧ a.length ≤ 640 ∧ k (.int n)
  | _, _ => False
def absC : CC
  | [.int i], k => k (.int (if i < 0 then -i else i))
  | _, _ => False
def maxC : CC
  | [.int i, .int j], k => k (.int (if j > i then j else i))
  | [.list ds], k => ∃ ns : List Int, ds = ns.map PyData.int ∧ 0 < ns.length ∧ ∀ m ∈ ns, (∀ y ∈ ns, y ≤ m) → k (.int m)
  | _, _ => False
def minC : CC
  | [.int i, .int j], k => k (.int (if j < i then j else i))
  | [.list ds], k => ∃ ns : List Int, ds = ns.map PyData.int ∧ 0 < ns.length ∧ ∀ m ∈ ns, (∀ y ∈ ns, m ≤ y) → k (.int m)
  | _, _ => False
def sumC : CC
  | [.list ds], k => ∃ ns : List Int, ds = ns.map PyData.int ∧ k (.int ns.sum)
  | _, _ => False
def allC : CC
  | [.list ds], k => ∃ bs : List Bool, ds = bs.map PyData.bool ∧ k (.bool (bs.all id))
  | _, _ => False
def anyC : CC
  | [.list ds], k => ∃ bs : List Bool, ds = bs.map PyData.bool ∧ k (.bool (bs.any id))
  | _, _ => False
def sortedC : CC
  | [.list ds], k => ∃ ns : List Int, ds = ns.map PyData.int ∧ ∀ ms : List Int, ms.Perm ns → ms.Pairwise (· ≤ ·) → k (.list (ms.map PyData.int))
  | [.tuple ds], k => ∃ ns : List Int, ds = ns.map PyData.int ∧ ∀ ms : List Int, ms.Perm ns → ms.Pairwise (· ≤ ·) → k (.list (ms.map PyData.int))
  | _, _ => False
def tupleC : CC
  | [.list ds], k => k (.tuple ds)
  | [.tuple ds], k => k (.tuple ds)
  | _, _ => False
def listC : CC
  | [.list ds], k => k (.list ds)
  | [.tuple ds], k => k (.list ds)
  | _, _ => False
def strC : CC
  | [.int i], k => i.natAbs.log2 < 1920 ∧ k (.str (toString i))
  | [.str x], k => k (.str x)
  | _, _ => False
def ordC : CC
  | [.str x], k => ∃ c : Nat, x = ⟨#[c]⟩ ∧ k (.int (c : Nat))
  | _, _ => False
def reprOk (d : D) : Prop := plain d = true ∧ d.showable = true ∧ d.depth ≤ 64 ∧ d.shown.length ≤ sizeLine
def reprC : CC
  | [d], k => reprOk d ∧ k (.str d.shown)
  | _, _ => False
def boolC : CC
  | [.int i], k => k (.bool (i != 0))
  | [.bool b], k => k (.bool b)
  | _, _ => False
def bltC : BF → CC
  | .len => lenC | .int => intC | .abs => absC | .max => maxC | .min => minC | .sum => sumC | .all => allC | .any => anyC | .sorted => sortedC
  | .tuple => tupleC | .list => listC | .str => strC | .ord => ordC | .repr => reprC | .bool => boolC

theorem vsa1 {K : PySem.W.Frag} {Hf H : Hp} {xs : List V} {d : D} (h : VSA K Hf H xs [d]) : ∃ x, xs = [x] ∧ VS K Hf H x d := by
  cases h with
  | cons a b => cases b; exact ⟨_, rfl, a⟩
theorem vsa2 {K : PySem.W.Frag} {Hf H : Hp} {xs : List V} {d e : D} (h : VSA K Hf H xs [d, e]) : ∃ x y, xs = [x, y] ∧ VS K Hf H x d ∧ VS K Hf H y e := by
  cases h with
  | cons a b =>
    obtain ⟨y, rfl, q⟩ := vsa1 b
    exact ⟨_, _, rfl, a, q⟩
mutual
theorem plain_noDict : ∀ d : D, plain d = true → d.hasDict = false
  | .none, _ => by simp only [PyData.hasDict]
  | .bool _, _ => by simp only [PyData.hasDict]
  | .int _, _ => by simp only [PyData.hasDict]
  | .str _, _ => by simp only [PyData.hasDict]
  | .list xs, h => by simp only [PyData.hasDict]; exact plainA_noDict xs (by simpa [plain] using h)
  | .tuple xs, h => by simp only [PyData.hasDict]; exact plainA_noDict xs (by simpa [plain] using h)
  | .dict _, h => by simp [plain] at h
theorem plainA_noDict : ∀ xs : List D, plainA xs = true → PyData.hasDictAll xs = false
  | [], _ => by simp only [PyData.hasDictAll]
  | x :: xs, h => by
    have h' : plain x = true ∧ plainA xs = true := by simpa [plainA] using h
    simp only [PyData.hasDictAll, plain_noDict x h'.1, plainA_noDict xs h'.2, Bool.or_self]
end

section
variable {X : Cx}
theorem cr_len : CallR X (.builtin "len") (RCD X.K lenC) := by
  intro pins s σ H xs us Q I r ⟨Hf, ds, k, sub, hx, hc, hk⟩
  unfold lenC at hc
  split at hc <;> first | exact hc.elim | (replace hx := vsa1 hx; obtain ⟨x, rfl, hx⟩ := hx)
  · obtain ⟨l, ys, rfl, hl, t⟩ := hx.lst_ sub
    exact call_len pins s σ H _ us Q I r ⟨_, _, rfl, .inl ⟨_, .of hl, rfl⟩, by rw [t.length]; exact hk _ hc _ _ _ (.refl sub) (.int _)⟩
  · obtain ⟨l, ys, rfl, hl, t⟩ := hx.tup_ sub
    exact call_len pins s σ H _ us Q I r ⟨_, _, rfl, .inr ⟨_, hl, rfl⟩, by rw [t.length]; exact hk _ hc _ _ _ (.refl sub) (.int _)⟩
  · rw [hx.str_] at r
    exact call_len pins s σ H _ us Q I r ⟨_, _, rfl, ⟨hc.1, rfl⟩, hk _ hc.2 _ _ _ (.refl sub) (.int _)⟩
  · obtain ⟨⟨ns, rfl⟩, hc⟩ := hc
    obtain ⟨l, rfl, hl⟩ := VS.scr_ sub hx
    refine call_len pins s σ H _ us Q I r ⟨_, _, rfl, .inl ⟨_, hl, rfl⟩, ?_⟩
    rw [List.length_map] at hc ⊢
    exact hk _ hc _ _ _ (.refl sub) (.int _)
theorem cr_int : CallR X (.type "int") (RCD X.K intC) := by
  intro pins s σ H xs us Q I r ⟨Hf, ds, k, sub, hx, hc, hk⟩
  unfold intC at hc
  split at hc <;> first | exact hc.elim | (replace hx := vsa1 hx; obtain ⟨x, rfl, hx⟩ := hx)
  · rw [hx.int_] at r
    exact call_int1 pins s σ H _ us Q I r (.inl ⟨_, rfl, hk _ hc _ _ _ (.refl sub) (.int _)⟩)
  · rw [hx.bl_] at r
    exact call_int1 pins s σ H _ us Q I r (.inr ⟨_, rfl, hk _ hc _ _ _ (.refl sub) (.int _)⟩)
  · rw [hx.str_] at r
    obtain ⟨n, h1, h2, hc⟩ := hc
    exact call_int_str pins s σ H _ us Q I r ⟨_, _, rfl, h1, h2, hk _ hc _ _ _ (.refl sub) (.int _)⟩
theorem cr_abs : CallR X (.builtin "abs") (RCD X.K absC) := by
  intro pins s σ H xs us Q I r ⟨Hf, ds, k, sub, hx, hc, hk⟩
  unfold absC at hc
  split at hc <;> first | exact hc.elim | (replace hx := vsa1 hx; obtain ⟨x, rfl, hx⟩ := hx)
  rw [hx.int_] at r
  exact call_abs pins s σ H _ us Q I r ⟨_, rfl, hk _ hc _ _ _ (.refl sub) (.int _)⟩
theorem cr_maxD (hcal : X.calm = true) : CallR X (.builtin "max") (RCD X.K maxC) := by
  intro pins s σ H xs us Q I r ⟨Hf, ds, k, sub, hx, hc, hk⟩
  unfold maxC at hc
  split at hc <;> first | exact hc.elim | skip
  · replace hx := vsa2 hx
    obtain ⟨x, y, rfl, hx, hy⟩ := hx
    rw [hx.int_, hy.int_] at r
    exact call_max2 hcal pins s σ H _ us Q I r ⟨_, _, rfl, hk _ hc _ _ _ (.refl sub) (.int _)⟩
  · replace hx := vsa1 hx
    obtain ⟨x, rfl, hx⟩ := hx
    obtain ⟨ns, rfl, hn, hc⟩ := hc
    obtain ⟨l, ys, rfl, hl, t⟩ := hx.lst_ sub
    rw [t.ints] at hl
    exact cr_max hcal pins s σ H _ us Q I r ⟨_, ns, rfl, .of hl, hn, fun m hm hle => hk _ (hc m hm hle) _ _ _ (.refl sub) (.int _)⟩
theorem cr_minD (hcal : X.calm = true) : CallR X (.builtin "min") (RCD X.K minC) := by
  intro pins s σ H xs us Q I r ⟨Hf, ds, k, sub, hx, hc, hk⟩
  unfold minC at hc
  split at hc <;> first | exact hc.elim | skip
  · replace hx := vsa2 hx
    obtain ⟨x, y, rfl, hx, hy⟩ := hx
    rw [hx.int_, hy.int_] at r
    exact call_min2 hcal pins s σ H _ us Q I r ⟨_, _, rfl, hk _ hc _ _ _ (.refl sub) (.int _)⟩
  · replace hx := vsa1 hx
    obtain ⟨x, rfl, hx⟩ := hx
    obtain ⟨ns, rfl, hn, hc⟩ := hc
    obtain ⟨l, ys, rfl, hl, t⟩ := hx.lst_ sub
    rw [t.ints] at hl
    exact cr_min hcal pins s σ H _ us Q I r ⟨_, ns, rfl, .of hl, hn, fun m hm hle => hk _ (hc m hm hle) _ _ _ (.refl sub) (.int _)⟩
theorem cr_sumD (hcal : X.calm = true) : CallR X (.builtin "sum") (RCD X.K sumC) := by
  intro pins s σ H xs us Q I r ⟨Hf, ds, k, sub, hx, hc, hk⟩
  unfold sumC at hc
  split at hc <;> first | exact hc.elim | (replace hx := vsa1 hx; obtain ⟨x, rfl, hx⟩ := hx)
  obtain ⟨ns, rfl, hc⟩ := hc
  obtain ⟨l, ys, rfl, hl, t⟩ := hx.lst_ sub
  rw [t.ints] at hl
  exact cr_sum hcal pins s σ H _ us Q I r ⟨_, ns, rfl, .of hl, hk _ hc _ _ _ (.refl sub) (.int _)⟩
theorem cr_allD (hcal : X.calm = true) : CallR X (.builtin "all") (RCD X.K allC) := by
  intro pins s σ H xs us Q I r ⟨Hf, ds, k, sub, hx, hc, hk⟩
  unfold allC at hc
  split at hc <;> first | exact hc.elim | (replace hx := vsa1 hx; obtain ⟨x, rfl, hx⟩ := hx)
  obtain ⟨bs, rfl, hc⟩ := hc
  obtain ⟨l, ys, rfl, hl, t⟩ := hx.lst_ sub
  rw [t.bls] at hl
  exact cr_all hcal pins s σ H _ us Q I r ⟨_, bs, rfl, .of hl, hk _ hc _ _ _ (.refl sub) (.bl _)⟩
theorem cr_anyD (hcal : X.calm = true) : CallR X (.builtin "any") (RCD X.K anyC) := by
  intro pins s σ H xs us Q I r ⟨Hf, ds, k, sub, hx, hc, hk⟩
  unfold anyC at hc
  split at hc <;> first | exact hc.elim | (replace hx := vsa1 hx; obtain ⟨x, rfl, hx⟩ := hx)
  obtain ⟨bs, rfl, hc⟩ := hc
  obtain ⟨l, ys, rfl, hl, t⟩ := hx.lst_ sub
  rw [t.bls] at hl
  exact cr_any hcal pins s σ H _ us Q I r ⟨_, bs, rfl, .of hl, hk _ hc _ _ _ (.refl sub) (.bl _)⟩
theorem cr_sortedD : CallR X (.builtin "sorted") (RCD X.K sortedC) := by
  intro pins s σ H xs us Q I r ⟨Hf, ds, k, sub, hx, hc, hk⟩
  unfold sortedC at hc
  split at hc <;> first | exact hc.elim | (replace hx := vsa1 hx; obtain ⟨x, rfl, hx⟩ := hx)
  · obtain ⟨ns, rfl, hc⟩ := hc
    obtain ⟨l, ys, rfl, hl, t⟩ := hx.lst_ sub
    rw [t.ints] at hl
    exact cr_sortedI pins s σ H _ us Q I r ⟨_, ns, rfl, .of hl, fun ms p hp ho hn => hk _ (hc ms hp ho) _ _ _ (.new sub hn) (dvNewL sub hn DvA.of_ints)⟩
  · obtain ⟨ns, rfl, hc⟩ := hc
    obtain ⟨l, ys, rfl, hl, t⟩ := hx.tup_ sub
    rw [t.ints] at hl
    exact cr_sortedT pins s σ H _ us Q I r ⟨_, ns, rfl, hl, fun ms p hp ho hn => hk _ (hc ms hp ho) _ _ _ (.new sub hn) (dvNewL sub hn DvA.of_ints)⟩
theorem cr_tupleD : CallR X (.type "tuple") (RCD X.K tupleC) := by
  intro pins s σ H xs us Q I r ⟨Hf, ds, k, sub, hx, hc, hk⟩
  unfold tupleC at hc
  split at hc <;> first | exact hc.elim | (replace hx := vsa1 hx; obtain ⟨x, rfl, hx⟩ := hx)
  · obtain ⟨l, ys, rfl, hl, t⟩ := hx.lst_ sub
    exact call_tuple_of pins s σ H _ us Q I r ⟨_, _, rfl, .inl ⟨.of hl, fun p hp => hk _ hc _ _ _ (.new sub hp) (dvNewT sub hp t)⟩⟩
  · cases hx with
    | f h =>
      have h' := h
      obtain ⟨l, ys, rfl, hl, t⟩ := VS.tup_ sub (.f h : VS X.K Hf H _ _)
      exact call_tuple_of pins s σ H _ us Q I r ⟨_, _, rfl, .inr ⟨hl, hk _ hc _ _ _ (.refl sub) h'⟩⟩
theorem cr_listD : CallR X (.type "list") (RCD X.K listC) := by
  intro pins s σ H xs us Q I r ⟨Hf, ds, k, sub, hx, hc, hk⟩
  unfold listC at hc
  split at hc <;> first | exact hc.elim | (replace hx := vsa1 hx; obtain ⟨x, rfl, hx⟩ := hx)
  · obtain ⟨l, ys, rfl, hl, t⟩ := hx.lst_ sub
    exact call_list_of pins s σ H _ us Q I r ⟨_, _, rfl, .inl (.of hl), fun p hp => hk _ hc _ _ _ (.new sub hp) (dvNewL sub hp t)⟩
  · obtain ⟨l, ys, rfl, hl, t⟩ := hx.tup_ sub
    exact call_list_of pins s σ H _ us Q I r ⟨_, _, rfl, .inr hl, fun p hp => hk _ hc _ _ _ (.new sub hp) (dvNewL sub hp t)⟩
theorem cr_strD : CallR X (.type "str") (RCD X.K strC) := by
  intro pins s σ H xs us Q I r ⟨Hf, ds, k, sub, hx, hc, hk⟩
  unfold strC at hc
  split at hc <;> first | exact hc.elim | (replace hx := vsa1 hx; obtain ⟨x, rfl, hx⟩ := hx)
  · rw [hx.int_] at r
    exact call_str_int pins s σ H _ us Q I r ⟨_, rfl, hc.1, hk _ hc.2 _ _ _ (.refl sub) (.str _)⟩
  · rw [hx.str_] at r
    exact SkE.call_str_str pins s σ H _ us Q I r ⟨_, rfl, hk _ hc _ _ _ (.refl sub) (.str _)⟩
theorem cr_ordD : CallR X (.builtin "ord") (RCD X.K ordC) := by
  intro pins s σ H xs us Q I r ⟨Hf, ds, k, sub, hx, hc, hk⟩
  unfold ordC at hc
  split at hc <;> first | exact hc.elim | (replace hx := vsa1 hx; obtain ⟨x, rfl, hx⟩ := hx)
  rw [hx.str_] at r
  obtain ⟨c, rfl, hc⟩ := hc
  exact call_ord pins s σ H _ us Q I r ⟨_, rfl, rfl, hk _ hc _ _ _ (.refl sub) (.int _)⟩
theorem cr_boolD : CallR X (.type "bool") (RCD X.K boolC) := by
  intro pins s σ H xs us Q I r ⟨Hf, ds, k, sub, hx, hc, hk⟩
  unfold boolC at hc
  split at hc <;> first | exact hc.elim | (replace hx := vsa1 hx; obtain ⟨x, rfl, hx⟩ := hx)
  · rw [hx.int_] at r
    exact call_bool1 pins s σ H _ us Q I r (.inl ⟨_, rfl, hk _ hc _ _ _ (.refl sub) (.bl _)⟩)
  · rw [hx.bl_] at r
    exact call_bool1 pins s σ H _ us Q I r (.inr ⟨_, rfl, hk _ hc _ _ _ (.refl sub) (.bl _)⟩)
theorem cr_reprD (hg : X.A.guards = some []) (hu : X.A.units + 66 < cLine) : CallR X (.builtin "repr") (RCD X.K reprC) := by
  intro pins s σ H xs us Q I r ⟨Hf, ds, k, sub, hx, hc, hk⟩
  unfold reprC at hc
  split at hc <;> first | exact hc.elim | (replace hx := vsa1 hx; obtain ⟨x, rfl, hx⟩ := hx)
  obtain ⟨⟨hp, hs, hd, hz⟩, hc⟩ := hc
  have fin := hk _ hc _ _ _ (.refl sub) (.str _)
  have dp := (hx.all sub).dp hp
  obtain ⟨u, rfl, ru⟩ := vals1 r
  obtain ⟨as, rd⟩ := Dp.reads I _ _ _ dp ru
  cases dp with
  | non => cases ru; simp only [PyData.shown] at fin; exact PySem.P.repr_of_none ⟨.str _, H, I.tok _, ⟨_, rfl⟩, fin⟩
  | bl b => cases ru; simp only [PyData.shown] at fin; exact PySem.P.repr_of_bool ⟨.str _, H, I.tok _, ⟨_, rfl⟩, fin⟩
  | int i =>
    obtain ⟨t, rfl⟩ := ru
    simp only [PyData.shown] at fin
    exact PySem.P.repr_of_int (by simpa [PyData.showable] using hs) ⟨.str _, H, I.tok _, ⟨_, rfl⟩, fin⟩
  | str y =>
    obtain ⟨t, rfl⟩ := ru
    simp only [PyData.shown] at fin hz
    exact PySem.P.repr_of_str ⟨.str _, H, I.tok _, ⟨_, rfl⟩, fin⟩ hz
  | lst a b =>
    cases ru
    exact repr_of_reads' rd hs (fun h => absurd h (by rw [plain_noDict _ hp]; simp)) hg (by omega) (fun _ _ e => e) (fun h' u tk kp => ⟨.str _, H, I.kept kp, ⟨_, rfl⟩, fin⟩) hz
  | tup a b =>
    cases ru
    exact repr_of_reads' rd hs (fun h => absurd h (by rw [plain_noDict _ hp]; simp)) hg (by omega) (fun _ _ e => e) (fun h' u tk kp => ⟨.str _, H, I.kept kp, ⟨_, rfl⟩, fin⟩) hz
/-- all of them -/
theorem cr_blt (f : BF) (hcal : X.calm = true) (hg : X.A.guards = some []) (hu : X.A.units + 66 < cLine) : CallR X f.val (RCD X.K (bltC f)) := by
  cases f
  · exact cr_len
  · exact cr_int
  · exact cr_abs
  · exact cr_maxD hcal
  · exact cr_minD hcal
  · exact cr_sumD hcal
  · exact cr_allD hcal
  · exact cr_anyD hcal
  · exact cr_sortedD
  · exact cr_tupleD
  · exact cr_listD
  · exact cr_strD
  · exact cr_ordD
  · exact cr_reprD hg hu
  · exact cr_boolD
end

/-! ### subscripts, slices -/
def idxC : C2
  | .list xs, .int i, k => ∃ d, atI xs i = some d ∧ k d
  | .tuple xs, .int i, k => ∃ d, atI xs i = some d ∧ k d
  | .str x, .int i, k => x.length ≤ sizeLine ∧ ∃ c, atI x.cps.toList i = some c ∧ k (.str ⟨#[c]⟩)
  | .dict [(.none, .list xs)], .int i, k => (∃ ns : List Int, xs = ns.map PyData.int) ∧ ∃ d, atI xs i = some d ∧ k d
  | _, _, _ => False
theorem atI_dv {K : PySem.W.Frag} {H : Hp} {vs : List V} {ds : List D} {i : Int} {d : D} (t : DvA K H vs ds) (h : atI ds i = some d) : ∃ v, atI vs i = some v ∧ Dv K H v d := by
  unfold atI at h ⊢
  rw [t.length]
  cases e : ixN ds.length i with
  | none => rw [e] at h; cases h
  | some j =>
    rw [e] at h
    obtain ⟨v, h1, h2⟩ := t.get (i := j) h
    exact ⟨v, h1, h2⟩
def cutL {α : Type} (xs : List α) (lo hi : Option Int) : List α := (xs.drop (HT.sIx xs.length 0 lo)).take (HT.sIx xs.length xs.length hi - HT.sIx xs.length 0 lo)
theorem cut_dv {K : PySem.W.Frag} {H : Hp} {vs : List V} {ds : List D} {lo hi : Option Int} (t : DvA K H vs ds) : DvA K H (cutV vs lo hi) (cutL ds lo hi) := by
  unfold cutV cutL
  rw [t.length]
  exact (t.drop _).take _
abbrev C3 := D → Option Int → Option Int → KD → Prop
def slcC : C3
  | .list xs, lo, hi, k => k (.list (cutL xs lo hi))
  | .tuple xs, lo, hi, k => k (.tuple (cutL xs lo hi))
  | .str x, lo, hi, k => x.length ≤ sizeLine ∧ k (.str (cutS x lo hi))
  | .dict [(.none, .list xs)], lo, hi, k => (∃ ns : List Int, xs = ns.map PyData.int) ∧ k (.list (cutL xs lo hi))
  | _, _, _, _ => False
def RSD (K : PySem.W.Frag) (c : C3) : V → Option Int → Option Int → Hp → VK → Prop := fun x lo hi H Q => ∃ (Hf : Hp) (d : D) (k : KD), Ex Hf H ∧ VS K Hf H x d ∧ c d lo hi k ∧ ∀ z, k z → ∀ v Gf G, Ext Hf H Gf G → Dv K Gf v z → Q v G

section
variable {X : Cx}
theorem ix_D : IxR X (R2D X.K idxC) := by
  intro val slice pins s σ H x y v u Q I rx ry ⟨Hf, d, e, k, sub, hx, hy, hc, hk⟩ hs
  unfold idxC at hc
  split at hc <;> first | exact hc.elim | skip
  · obtain ⟨d, ha, hc⟩ := hc
    obtain ⟨l, ys, rfl, hl, t⟩ := hx.lst_ sub
    rw [hy.int_] at ry
    obtain ⟨w, h1, h2⟩ := atI_dv t ha
    exact ix_list val slice pins s σ H _ _ v u Q I rx ry ⟨_, _, _, _, rfl, rfl, .of hl, h1, hk _ hc _ _ _ (.refl sub) h2⟩ hs
  · obtain ⟨d, ha, hc⟩ := hc
    obtain ⟨l, ys, rfl, hl, t⟩ := hx.tup_ sub
    rw [hy.int_] at ry
    obtain ⟨w, h1, h2⟩ := atI_dv t ha
    exact ix_tup val slice pins s σ H _ _ v u Q I rx ry ⟨_, _, _, _, rfl, rfl, hl, h1, hk _ hc _ _ _ (.refl sub) h2⟩ hs
  · obtain ⟨hz, c, ha, hc⟩ := hc
    rw [hx.str_] at rx
    rw [hy.int_] at ry
    exact ix_str val slice pins s σ H _ _ v u Q I rx ry ⟨_, _, _, rfl, rfl, hz, ha, hk _ hc _ _ _ (.refl sub) (.str _)⟩ hs
  · obtain ⟨⟨ns, rfl⟩, d, ha, hc⟩ := hc
    obtain ⟨l, rfl, hl⟩ := VS.scr_ sub hx
    rw [hy.int_] at ry
    obtain ⟨w, h1, h2⟩ := atI_dv (DvA.of_ints (K := X.K) (H := Hf) (ns := ns)) ha
    exact ix_list val slice pins s σ H _ _ v u Q I rx ry ⟨_, _, _, _, rfl, rfl, hl, h1, hk _ hc _ _ _ (.refl sub) h2⟩ hs
theorem sl_D : SlR X (RSD X.K slcC) := by
  intro pins s σ H x v vl vu lo hi sl Q I rx hs pl pu ⟨Hf, d, k, sub, hx, hc, hk⟩
  unfold slcC at hc
  split at hc <;> first | exact hc.elim | skip
  · obtain ⟨l, ys, rfl, hl, t⟩ := hx.lst_ sub
    exact sl_list pins s σ H _ v vl vu lo hi sl Q I rx hs pl pu ⟨_, _, rfl, .of hl, fun p hp => hk _ hc _ _ _ (.new sub hp) (dvNewL sub hp (cut_dv t))⟩
  · have hx' := hx
    obtain ⟨l, ys, rfl, hl, t⟩ := hx.tup_ sub
    refine sl_tupA pins s σ H _ v vl vu lo hi sl Q I rx hs pl pu ⟨_, _, rfl, hl, fun e => ?_, fun _ p hp => hk _ hc _ _ _ (.new sub hp) (dvNewT sub hp (cut_dv t))⟩
    cases hx' with
    | f h =>
      refine hk _ hc _ _ _ (.refl sub) ?_
      have : ∀ {zs : List D}, ys.length = zs.length → cutL zs lo hi = zs := fun {zs} q => by
        unfold cutL
        rw [← q, e.1, e.2, List.drop_zero, Nat.sub_zero, q, List.take_length]
      rw [this t.length]
      exact h
  · rw [hx.str_] at rx
    exact sl_str pins s σ H _ v vl vu lo hi sl Q I rx hs pl pu ⟨_, rfl, hc.1, hk _ hc.2 _ _ _ (.refl sub) (.str _)⟩
  · obtain ⟨⟨ns, rfl⟩, hc⟩ := hc
    obtain ⟨l, rfl, hl⟩ := VS.scr_ sub hx
    exact sl_list pins s σ H _ v vl vu lo hi sl Q I rx hs pl pu ⟨_, _, rfl, hl, fun p hp => hk _ hc _ _ _ (.new sub hp) (dvNewL sub hp (cut_dv DvA.of_ints))⟩
end

/-! ### truth -/
def truD : D → Option Bool
  | .none => some false
  | .bool b => some b
  | .int i => some (i != 0)
  | .str x => if x.length ≤ sizeLine then some ((x.length : Int) != 0) else none
  | .list xs => some (!xs.isEmpty)
  | .tuple xs => some (!xs.isEmpty)
  | .dict _ => none
theorem tru_D {K : PySem.W.Frag} {Hf H : Hp} {v : V} {d : D} {b : Bool} (sub : Ex Hf H) (h : VS K Hf H v d) (e : truD d = some b) : TruV K v H b := by
  cases d with
  | none => rw [h.non_]; cases e; rfl
  | bool c => rw [h.bl_]; cases e; rfl
  | int i => rw [h.int_]; cases e; rfl
  | str x =>
    rw [h.str_]
    simp only [truD] at e
    split at e
    · cases e; exact ⟨by assumption, rfl⟩
    · cases e
  | list ds =>
    obtain ⟨l, ys, rfl, hl, t⟩ := h.lst_ sub
    cases e
    refine .inl ⟨_, .of hl, ?_⟩
    cases t <;> rfl
  | tuple ds =>
    obtain ⟨l, ys, rfl, hl, t⟩ := h.tup_ sub
    cases e
    refine .inr (.inl ⟨_, hl, ?_⟩)
    cases t <;> rfl
  | dict _ => cases e

/-! ### methods of texts and lists -/
inductive MF where
  | split | words | join | partition | rpartition | find | rfind | count | startswith | endswith | strip
  deriving DecidableEq
def RMD (K : PySem.W.Frag) (c : D → List D → KD → Prop) : V → List V → Hp → VK → Prop := fun x xs H Q => ∃ (Hf : Hp) (d : D) (ds : List D) (k : KD), Ex Hf H ∧ VS K Hf H x d ∧ VSA K Hf H xs ds ∧ c d ds k ∧ ∀ z, k z → ∀ v Gf G, Ext Hf H Gf G → Dv K Gf v z → Q v G
def sL (xs : List Str) : D := .list (xs.map PyData.str)
abbrev MC := D → List D → KD → Prop
/-- a method of one text on another text, one on a text alone -/
def m1C (ok : Str → Str → Prop) (g : Str → Str → D) : MC
  | .str a, [.str b], k => ok a b ∧ k (g a b)
  | _, _, _ => False
def m0C (ok : Str → Prop) (g : Str → D) : MC
  | .str a, [], k => ok a ∧ k (g a)
  | _, _, _ => False
def joinC : MC
  | .str a, [.list ds], k => ∃ ys : List Str, ds = ys.map PyData.str ∧ (ys.map (·.length)).sum + ys.length * a.length ≤ 16777216 ∧ k (.str (Txt.join a ys))
  | _, _, _ => False
def mthC : MF → MC
  | .split => m1C (fun a b => (b.length == 0) = false ∧ a.length + 2 ≤ sizeLine) fun a b => sL (Txt.split a b)
  | .words => m0C (fun a => a.length + 2 ≤ sizeLine) fun a => sL (Txt.words a)
  | .join => joinC
  | .partition => m1C (fun a b => (b.length == 0) = false ∧ a.length ≤ sizeLine) fun a b => .tuple [.str (Txt.partition a b).1, .str (Txt.partition a b).2.1, .str (Txt.partition a b).2.2]
  | .rpartition => m1C (fun a b => (b.length == 0) = false ∧ a.length ≤ sizeLine) fun a b => .tuple [.str (Txt.rpartition a b).1, .str (Txt.rpartition a b).2.1, .str (Txt.rpartition a b).2.2]
  | .find => m1C (fun _ _ => True) fun a b => .int (Txt.find a b)
  | .rfind => m1C (fun _ _ => True) fun a b => .int (Txt.rfind a b)
  | .count => m1C (fun _ _ => True) fun a b => .int (Txt.count a b)
  | .startswith => m1C (fun _ _ => True) fun a b => .bool (Txt.startswith a b)
  | .endswith => m1C (fun _ _ => True) fun a b => .bool (Txt.endswith a b)
  | .strip => m0C (fun a => a.length ≤ sizeLine) fun a => .str (Txt.strip a)
def MF.id : MF → String
  | .split => "str.split" | .words => "str.split" | .join => "str.join" | .partition => "str.partition" | .rpartition => "str.rpartition"
  | .find => "str.find" | .rfind => "str.rfind" | .count => "str.count" | .startswith => "str.startswith" | .endswith => "str.endswith" | .strip => "str.strip"
def MF.nm : MF → Str
  | .split => "split" | .words => "split" | .join => "join" | .partition => "partition" | .rpartition => "rpartition"
  | .find => "find" | .rfind => "rfind" | .count => "count" | .startswith => "startswith" | .endswith => "endswith" | .strip => "strip"
section
variable {X : Cx}
theorem mt_rpartition : MtR X "str.rpartition" (fun x xs H Q => ∃ a b, x = .str a ∧ xs = [.str b] ∧ (b.length == 0) = false ∧ a.length ≤ sizeLine ∧
    ∀ p, H p = none → Q (.ref p) (upd H p (.tup [.str (Txt.rpartition a b).1, .str (Txt.rpartition a b).2.1, .str (Txt.rpartition a b).2.2]))) := by
  intro pins s σ H x xs v us Q I rx rs ⟨a, b, e1, e2, hb, hz, h⟩
  subst e1 e2
  obtain ⟨t, rfl⟩ := rx
  obtain ⟨_, rfl, u, rfl⟩ := vals1 rs
  refine call_meets F.slot_str_rpartition (typeIs_str _ _ _) F.entry_str_rpartition (F.args_str_rpartition_2 _ _) (meets_str_rpartition a b t u hb hz) ?_
  unfold Txt.rpartition at h
  revert h
  cases Builtin.Str.lastOccurrence a b 0 a.length with
  | none => intro h; exact laid_parts I h
  | some i => intro h; exact laid_parts I h
theorem sL_dv {K : PySem.W.Frag} {Hf H : Hp} {p : Addr} {ys : List Str} (sub : Ex Hf H) (hp : H p = none) : Dv K (upd Hf p (.lst (ys.map V.str))) (.ref p) (sL ys) := dvNewL sub hp DvA.of_strs
theorem t3_dv {K : PySem.W.Frag} {Hf H : Hp} {p : Addr} {x y z : Str} (sub : Ex Hf H) (hp : H p = none) : Dv K (upd Hf p (.tup [.str x, .str y, .str z])) (.ref p) (.tuple [.str x, .str y, .str z]) :=
  dvNewT sub hp (.cons (.str _) (.cons (.str _) (.cons (.str _) .nil)))
/-- by a rule on two texts -/
theorem mt_m1 {id : String} {r : V → List V → Hp → VK → Prop} {ok : Str → Str → Prop} {g : Str → Str → D} (rule : MtR X id r)
    (h : ∀ (a b : Str) (Hf H : Hp) (k : KD) (Q : VK), Ex Hf H → ok a b → k (g a b) → (∀ z, k z → ∀ v Gf G, Ext Hf H Gf G → Dv X.K Gf v z → Q v G) → r (.str a) [.str b] H Q) : MtR X id (RMD X.K (m1C ok g)) := by
  intro pins s σ H x xs v us Q I rx rs ⟨Hf, d, ds, k, sub, hx, hxs, hc, hk⟩
  unfold m1C at hc
  split at hc <;> first | exact hc.elim | skip
  replace hxs := vsa1 hxs
  obtain ⟨y, rfl, hy⟩ := hxs
  rw [hx.str_] at rx
  rw [hy.str_] at rs
  exact rule pins s σ H _ _ v us Q I rx rs (h _ _ Hf H k Q sub hc.1 hc.2 hk)
theorem mt_m0 {id : String} {r : V → List V → Hp → VK → Prop} {ok : Str → Prop} {g : Str → D} (rule : MtR X id r)
    (h : ∀ (a : Str) (Hf H : Hp) (k : KD) (Q : VK), Ex Hf H → ok a → k (g a) → (∀ z, k z → ∀ v Gf G, Ext Hf H Gf G → Dv X.K Gf v z → Q v G) → r (.str a) [] H Q) : MtR X id (RMD X.K (m0C ok g)) := by
  intro pins s σ H x xs v us Q I rx rs ⟨Hf, d, ds, k, sub, hx, hxs, hc, hk⟩
  unfold m0C at hc
  split at hc <;> first | exact hc.elim | skip
  cases hxs
  rw [hx.str_] at rx
  exact rule pins s σ H _ _ v us Q I rx rs (h _ Hf H k Q sub hc.1 hc.2 hk)
theorem mt_joinD : MtR X "str.join" (RMD X.K joinC) := by
  intro pins s σ H x xs v us Q I rx rs ⟨Hf, d, ds, k, sub, hx, hxs, hc, hk⟩
  unfold joinC at hc
  split at hc <;> first | exact hc.elim | skip
  replace hxs := vsa1 hxs
  obtain ⟨y, rfl, hy⟩ := hxs
  rw [hx.str_] at rx
  obtain ⟨ys, rfl, hz, hc⟩ := hc
  obtain ⟨l, zs, rfl, hl, t⟩ := hy.lst_ sub
  rw [t.strs] at hl
  exact mt_join pins s σ H _ _ v us Q I rx rs ⟨_, _, ys, rfl, rfl, .inl (.of hl), hz, hk _ hc _ _ _ (.refl sub) (.str _)⟩
theorem mt_D (m : MF) : MtR X m.id (RMD X.K (mthC m)) := by
  cases m
  · exact mt_m1 mt_split fun a b Hf H k Q sub ok c hk => ⟨a, b, rfl, rfl, ok.1, ok.2, fun p hp => hk _ c _ _ _ (.new sub hp) (sL_dv sub hp)⟩
  · exact mt_m0 mt_words fun a Hf H k Q sub ok c hk => ⟨a, rfl, rfl, ok, fun p hp => hk _ c _ _ _ (.new sub hp) (sL_dv sub hp)⟩
  · exact mt_joinD
  · exact mt_m1 mt_partition fun a b Hf H k Q sub ok c hk => ⟨a, b, rfl, rfl, ok.1, ok.2, fun p hp => hk _ c _ _ _ (.new sub hp) (t3_dv sub hp)⟩
  · exact mt_m1 mt_rpartition fun a b Hf H k Q sub ok c hk => ⟨a, b, rfl, rfl, ok.1, ok.2, fun p hp => hk _ c _ _ _ (.new sub hp) (t3_dv sub hp)⟩
  · exact mt_m1 mt_find fun a b Hf H k Q sub ok c hk => ⟨a, b, rfl, rfl, hk _ c _ _ _ (.refl sub) (.int _)⟩
  · exact mt_m1 mt_rfind fun a b Hf H k Q sub ok c hk => ⟨a, b, rfl, rfl, hk _ c _ _ _ (.refl sub) (.int _)⟩
  · exact mt_m1 mt_count fun a b Hf H k Q sub ok c hk => ⟨a, b, rfl, rfl, hk _ c _ _ _ (.refl sub) (.int _)⟩
  · exact mt_m1 mt_startswith fun a b Hf H k Q sub ok c hk => ⟨a, b, rfl, rfl, hk _ c _ _ _ (.refl sub) (.bl _)⟩
  · exact mt_m1 mt_endswith fun a b Hf H k Q sub ok c hk => ⟨a, b, rfl, rfl, hk _ c _ _ _ (.refl sub) (.bl _)⟩
  · exact mt_m0 mt_strip fun a Hf H k Q sub ok c hk => ⟨a, rfl, rfl, ok, hk _ c _ _ _ (.refl sub) (.str _)⟩
end
end FR

/-! FrD: the small language, its reading over data, the look at the written text -/
namespace FR
open PySem L2

/-! ### the language -/
inductive BO where
  | add | sub | mul | mod | fdiv | pow
  deriving DecidableEq
inductive CO where
  | eq | ne | lt | le | gt | ge | isN | notN | mem | nmem
  deriving DecidableEq
/-- a literal -/
inductive Lit where
  | non | bl (b : Bool) | int (i : Int) | str (x : Str)
def Lit.d : Lit → D
  | .non => .none | .bl b => .bool b | .int i => .int i | .str x => .str x
/-- a target: a name, some names -/
inductive CT where
  | v (i : Nat)
  | t (is : List Nat)
mutual
inductive CE where
  | var (i : Nat)
  | lit (c : Lit)
  | glb (x : Str)
  | bin (o : BO) (a b : CE)
  | neg (a : CE)
  | cmp (o : CO) (a b : CE)
  | chn (o p : CO) (a b c : CE)
  | and (a b : CE)
  | or (a b : CE)
  | not (a : CE)
  | ite (c : CQ) (a b : CE)
  | tup (es : CL)
  | lst (es : CL)
  | idx (a i : CE)
  | slc (a : CE) (lo hi : CP)
  | blt (f : BF) (es : CL)
  | mth (m : MF) (a : CE) (es : CL)
  | isi (a : CE) (ts : List String)
  | call (f : Str) (es : CL) (ks : List Str) (ws : CL)
  | dget (i : Nat) (e : CE)
  | dgtd (i : Nat) (e x : CE)
  | din (neg : Bool) (e : CE) (i : Nat)
  | dsrt (i : Nat)
  | lc (own : List Nat) (tg : CT) (it : CI) (ifs : CG) (elt : CE)
  | rev (a : CE)
  | fs (es : CL)
  | lix (a e : CE)
  | tvar (i : Nat)
  | tix (i : Nat) (e : CE)
  | tupN (a : CE)
  | lend (is : List Nat) (a : CE)
/-- a test -/
inductive CQ where
  | v (e : CE)
  | and (a b : CQ)
  | or (a b : CQ)
  | not (a : CQ)
inductive CG where
  | no
  | some (q : CQ)
inductive CL where
  | nil
  | cons (e : CE) (r : CL)
  | star (e : CE) (r : CL)
inductive CP where
  | no
  | some (e : CE)
inductive CI where
  | e (a : CE)
  | rng1 (e : CE)
  | rng2 (e f : CE)
  | rngd (e f : CE)
  | enum (a : CE)
  | zip (a b : CE)
end
/-- what some names are given: frozen data, or lists of the def's own -/
inductive CA where
  | nil
  | d (e : CE) (r : CA)
  | o (e : CE) (r : CA)
mutual
inductive CS where
  | asg (i : Nat) (e : CE)
  | own (i : Nat) (e : CE)
  | frz (i : Nat)
  | new (i : Nat)
  | unp (is : List Nat) (e : CE)
  | par (i j : Nat) (a b : CE)
  | par3 (i j l : Nat) (a b c : CE)
  | parS (is : List Nat) (a : CA)
  | app (i : Nat) (e : CE)
  | ext (i : Nat) (e : CE)
  | extL (is : List Nat) (i : Nat) (e : CE)
  | apop (i j : Nat) (ix : CE)
  | put (i : Nat) (ix e : CE)
  | dput (i : Nat) (ix e : CE)
  | aug (i : Nat) (o : Bool) (e : CE)
  | exp (e : CE)
  | ifs (c : CQ) (a b : CB)
  | for_ (tg : CT) (it : CI) (b : CB)
  | whl (c : CQ) (b : CB)
  | ret (e : CE)
  | retN
  | retF (e : CE)
  | pass
  | brk
  | cnt
  | bad
inductive CB where
  | nil
  | cons (s : CS) (r : CB)
end

/-! ### promises of defs over data -/
abbrev Er := Str → D → Prop
def er0 : Er := fun _ _ => False
/-- a def's promise: the arguments in the parameters' order, what is wanted of the answer, of an error -/
abbrev FS := List D → KD → Er → Prop
/-- where a parameter's value comes from: a place among the positional arguments, among the keywords, a default -/
inductive Src where
  | p (i : Nat)
  | k (j : Nat)
  | c (j : Nat) (l : Lit)
def Src.dat (ds es : List D) : Src → D
  | .p i => ds.getD i .none
  | .k j => es.getD j .none
  | .c _ l => l.d
structure Ctx where
  fn : Str → Option FS
  sh : List (Str × List (Nat × List Str × List Src))
  gl : Str → Option D

def shapeOf (G : Ctx) (f : Str) (n : Nat) (ks : List Str) : Option (List Src) := match G.sh.lookup f with
  | some l => (l.find? fun q => decide (q.1 = n ∧ q.2.1 = ks)).map (·.2.2)
  | none => none

/-! ### the reading -/
/-- d[k] = v, d.get(k) of a dict's pairs -/
def putKD (kvs : List (Key × D)) (k : Key) (v : D) : List (Key × D) :=
  if (kvs.any fun kv => decide (kv.1 = k)) = true then kvs.map fun kv => if kv.1 = k then (kv.1, v) else kv else kvs ++ [(k, v)]
def getKD (kvs : List (Key × D)) (k : Key) : Option D := (kvs.find? fun kv => decide (kv.1 = k)).map (·.2)
def binC : BO → C2
  | .add => addC | .sub => subC | .mul => mulC | .mod => modC | .fdiv => fdivC | .pow => powC
def cmpC : CO → C2
  | .eq => eqC | .ne => neC | .lt => ltC | .le => leC | .gt => gtC | .ge => geC | .isN => isNC | .notN => notNC | .mem => inC false | .nmem => inC true
def tyNm : D → String
  | .none => "NoneType" | .bool _ => "bool" | .int _ => "int" | .str _ => "str" | .list _ => "list" | .tuple _ => "tuple" | .dict _ => "dict"
def tyIs (a b : String) : Bool := a == b || (a == "bool" && b == "int")
def isiD (d : D) (ts : List String) : Option Bool := match d with
  | .dict _ => none
  | d => some (ts.any (tyIs (tyNm d)))
/-- the value of a slot -/
def slD : Option Sl → KD → Prop
  | some (.d x), k => k x
  | _, _ => False
/-- .. that is looked at alone -/
def slS : Option Sl → KD → Prop
  | some (.d x), k => k x
  | some (.l xs), k => k (.list xs)
  | _, _ => False
/-- the slots forgotten -/
def wipeL (δ : List Sl) : List Nat → List Sl
  | [] => δ
  | v :: vs => (wipeL δ vs).set v .no
def setSl (δ : List Sl) : List Nat → List Sl → Option (List Sl)
  | [], [] => some δ
  | i :: is, s :: ss => setSl (δ.set i s) is ss
  | _, _ => none
def setAll (δ : List Sl) : List Nat → List D → Option (List Sl)
  | [], [] => some δ
  | i :: is, d :: ds => setAll (δ.set i (.d d)) is ds
  | _, _ => none
/-- a target is given its value -/
def tgt : CT → D → List Sl → (List Sl → Prop) → Prop
  | .v i, d, δ, k => k (δ.set i (.d d))
  | .t is, .tuple ds, δ, k => ∃ δ', setAll δ is ds = some δ' ∧ k δ'
  | .t _, _, _, _ => False
/-- what is walked -/
def itemsC : D → (List D → Prop) → Prop
  | .list xs, k => k xs
  | .tuple xs, k => k xs
  | .str x, k => k (x.cps.toList.map fun c => .str ⟨#[c]⟩)
  | _, _ => False
def enumL : Nat → List D → List D
  | _, [] => []
  | i, d :: ds => .tuple [.int i, d] :: enumL (i + 1) ds
def zipL : List D → List D → List D
  | d :: ds, e :: es => .tuple [d, e] :: zipL ds es
  | _, _ => []

/-- own lists are lent -/
def frzS (δ : List Sl) : List Nat → Option (List Sl)
  | [] => some δ
  | i :: is => match δ[i]? with
    | some (.l xs) => frzS (δ.set i (.d (.list xs))) is
    | _ => none
/-- x[::-1] -/
def revC : D → KD → Prop
  | .list xs, k => k (.list xs.reverse)
  | .tuple xs, k => k (.tuple xs.reverse)
  | _, _ => False
/-- a part of a written text -/
def fmtP : D → (Str → Prop) → Prop
  | .str y, k => k y
  | .int i, k => i.natAbs.log2 < 1920 ∧ k (toString i)
  | _, _ => False
/-- the first place of y among flat items -/
def lixC (xs : List D) (y : D) (k : KD) : Prop := flatD y = true ∧ xs.all flatD = true ∧ ∃ j, xs.findIdx? (fun z => PyData.eqv z y) = some j ∧ k (.int (j : Nat))
section
variable (G : Ctx)
mutual
/-- an expression: frozen data; looked at alone (sh) a name may be a list of the def's own -/
def rd (sh : Bool) (er : Er) : CE → List Sl → KD → Prop
  | .var i, δ, k => if sh = true then slS δ[i]? k else slD δ[i]? k
  | .lit c, _, k => k c.d
  | .glb x, _, k => ∃ d, G.gl x = some d ∧ k d
  | .bin o a b, δ, k => rd true er a δ fun x => rd true er b δ fun y => binC o x y k
  | .neg a, δ, k => rd true er a δ fun x => ∃ i, x = .int i ∧ k (.int (-i))
  | .cmp o a b, δ, k => rd true er a δ fun x => rd true er b δ fun y => cmpC o x y k
  | .chn o p a b c, δ, k => rd true er a δ fun x => rd true er b δ fun y => cmpC o x y fun z => ∃ t, z = .bool t ∧ if t = true then rd true er c δ fun w => cmpC p y w k else k (.bool false)
  | .and a b, δ, k => rd false er a δ fun x => ∃ t, truD x = some t ∧ if t = true then rd false er b δ k else k x
  | .or a b, δ, k => rd false er a δ fun x => ∃ t, truD x = some t ∧ if t = true then k x else rd false er b δ k
  | .not a, δ, k => rd true er a δ fun x => ∃ t, truD x = some t ∧ k (.bool (!t))
  | .ite c a b, δ, k => rq er c δ fun t => if t = true then rd false er a δ k else rd false er b δ k
  | .tup es, δ, k => rl false er es δ fun ds => ds.length ≤ sizeLine ∧ k (.tuple ds)
  | .lst es, δ, k => rl false er es δ fun ds => ds.length ≤ sizeLine ∧ k (.list ds)
  | .idx a i, δ, k => rd true er a δ fun x => rd true er i δ fun y => idxC x y k
  | .slc a lo hi, δ, k => rd true er a δ fun x => rp er lo δ fun l => rp er hi δ fun h => slcC x l h k
  | .blt f es, δ, k => rl true er es δ fun ds => bltC f ds k
  | .mth m a es, δ, k => rd true er a δ fun x => (∃ y, x = .str y) ∧ rl true er es δ fun ds => mthC m x ds k
  | .isi a ts, δ, k => rd true er a δ fun x => ∃ b, isiD x ts = some b ∧ k (.bool b)
  | .call f es ks ws, δ, k => rl false er es δ fun ds => rl false er ws δ fun xs => ∃ fs src, G.fn f = some fs ∧ shapeOf G f ds.length ks = some src ∧ xs.length = ks.length ∧ fs (src.map (Src.dat ds xs)) k er
  | .dget i e, δ, k => ∃ kvs, δ[i]? = some (.m kvs) ∧ rd true er e δ fun y => ∃ key x, y = kD key ∧ getKD kvs key = some x ∧ k x
  | .dgtd i e f, δ, k => ∃ kvs, δ[i]? = some (.m kvs) ∧ rd true er e δ fun y => rd false er f δ fun z => ∃ key, y = kD key ∧ k ((getKD kvs key).getD z)
  | .din neg e i, δ, k => ∃ kvs, δ[i]? = some (.m kvs) ∧ rd true er e δ fun y => ∃ key, y = kD key ∧ k (.bool (xor neg (getKD kvs key).isSome))
  | .dsrt i, δ, k => ∃ (kvs : List (Key × D)) (ns : List Int), δ[i]? = some (.m kvs) ∧ kvs.map (·.1) = ns.map Sum.inl ∧ ns.length < 64 ∧ ∀ ms : List Int, ms.Perm ns → ms.Pairwise (· ≤ ·) → k (.list (ms.map PyData.int))
  | .lc own tg it ifs elt, δ, k => ri true er it δ fun items => items.length ≤ 1000000 ∧ ∃ W : Nat → List D → Prop, W 0 [] ∧
      (∀ i d acc, items[i]? = some d → W i acc → acc.length ≤ i → tgt tg d (wipeL δ own) fun δ' => rg er0 ifs δ' fun t => if t = true then rd false er0 elt δ' fun x => W (i + 1) (acc ++ [x]) else W (i + 1) acc) ∧
      ∀ acc, W items.length acc → k (.list acc)
  | .rev a, δ, k => rd true er a δ fun x => revC x k
  | .fs es, δ, k => rf er es ⟨#[]⟩ δ k
  | .lix a e, δ, k => rd true er a δ fun x => ∃ xs, x = .list xs ∧ rd true er e δ fun y => lixC xs y k
  | .tvar i, δ, k => ∃ ds, δ[i]? = some (.d (FR.tupN ds)) ∧ k (.tuple ds)
  | .tix i e, δ, k => ∃ ds, δ[i]? = some (.d (FR.tupN ds)) ∧ rd true er e δ fun y => lixC ds y k
  | .tupN a, δ, k => rd true er a δ fun x => ∃ xs, x = .list xs ∧ k (FR.tupN xs)
  | .lend is a, δ, k => ∃ δ', frzS δ is = some δ' ∧ rd false er0 a δ' fun x => flatD x = true ∧ k x
/-- a test -/
def rq (er : Er) : CQ → List Sl → (Bool → Prop) → Prop
  | .v e, δ, k => rd true er e δ fun x => ∃ t, truD x = some t ∧ k t
  | .and a b, δ, k => rq er a δ fun t => if t = true then rq er b δ k else k false
  | .or a b, δ, k => rq er a δ fun t => if t = true then k true else rq er b δ k
  | .not a, δ, k => rq er a δ fun t => k (!t)
def rg (er : Er) : CG → List Sl → (Bool → Prop) → Prop
  | .no, _, k => k true
  | .some q, δ, k => rq er q δ k
/-- some expressions, from the left -/
def rl (sh : Bool) (er : Er) : CL → List Sl → (List D → Prop) → Prop
  | .nil, _, k => k []
  | .cons e r, δ, k => rd sh er e δ fun x => rl sh er r δ fun xs => k (x :: xs)
  | .star e r, δ, k => rd true er e δ fun x => ∃ ds, (x = .list ds ∨ x = .tuple ds) ∧ rl sh er r δ fun xs => k (ds ++ xs)
/-- a written text's parts -/
def rf (er : Er) : CL → Str → List Sl → KD → Prop
  | .nil, acc, _, k => k (.str acc)
  | .cons e r, acc, δ, k => rd true er e δ fun x => fmtP x fun y => (acc ++ y).length ≤ sizeLine ∧ rf er r (acc ++ y) δ k
  | .star _ _, _, _, _ => False
/-- a part of a slice -/
def rp (er : Er) : CP → List Sl → (Option Int → Prop) → Prop
  | .no, _, k => k none
  | .some e, δ, k => rd true er e δ fun x => ∃ i, x = .int i ∧ k (some i)
/-- what is walked -/
def ri (sh : Bool) (er : Er) : CI → List Sl → (List D → Prop) → Prop
  | .e a, δ, k => rd sh er a δ fun x => itemsC x k
  | .rng1 e, δ, k => rd true er e δ fun x => ∃ j, x = .int j ∧ (-(2 ^ 62) ≤ j ∧ j < 2 ^ 62) ∧ k ((List.range j.toNat).map fun (n : Nat) => .int (n : Int))
  | .rng2 e f, δ, k => rd true er e δ fun x => rd true er f δ fun y => ∃ i j, (x = .int i ∧ y = .int j) ∧ (-(2 ^ 62) ≤ i ∧ i < 2 ^ 62 ∧ -(2 ^ 62) ≤ j ∧ j < 2 ^ 62) ∧ k ((List.range (j - i).toNat).map fun (n : Nat) => .int (i + (n : Int)))
  | .rngd e f, δ, k => rd true er e δ fun x => rd true er f δ fun y => ∃ i j, (x = .int i ∧ y = .int j) ∧ (-(2 ^ 62) ≤ i ∧ i < 2 ^ 62 ∧ -(2 ^ 62) ≤ j ∧ j < 2 ^ 62) ∧ k ((List.range (i - j).toNat).map fun (n : Nat) => .int (i - (n : Int)))
  | .enum a, δ, k => rd sh er a δ fun x => itemsC x fun xs => k (enumL 0 xs)
  | .zip a b, δ, k => rd sh er a δ fun x => rd sh er b δ fun y => ∃ xs ys, ((x = .list xs ∧ y = .list ys) ∨ (x = .tuple xs ∧ y = .tuple ys)) ∧ k (zipL xs ys)
end

/-! ### statements -/
/-- what is wanted behind a statement -/
structure Ed where
  nx : List Sl → Prop
  rt : KD
  bk : List Sl → Prop := fun _ => False
  ct : List Sl → Prop := fun _ => False
  rf : List D → Prop := fun _ => False
/-- a list made anew: it may become the def's own -/
def rn (er : Er) : CE → List Sl → (List D → Prop) → Prop
  | .lst es, δ, k => rl G false er es δ fun ds => ds.length ≤ sizeLine ∧ k ds
  | .lc own tg it ifs elt, δ, k => ri G true er it δ fun items => items.length ≤ 1000000 ∧ ∃ W : Nat → List D → Prop, W 0 [] ∧
      (∀ i d acc, items[i]? = some d → W i acc → acc.length ≤ i → tgt tg d (wipeL δ own) fun δ' => rg G er0 ifs δ' fun t => if t = true then rd G false er0 elt δ' fun x => W (i + 1) (acc ++ [x]) else W (i + 1) acc) ∧
      ∀ acc, W items.length acc → k acc
  | .bin .add a b, δ, k => rd G true er a δ fun x => rd G true er b δ fun y => ∃ xs ys, x = .list xs ∧ y = .list ys ∧ xs.length + ys.length ≤ sizeLine ∧ k (xs ++ ys)
  | .blt .list (.cons e .nil), δ, k => rd G true er e δ fun x => ∃ xs, (x = .list xs ∨ x = .tuple xs) ∧ k xs
  | .slc a lo hi, δ, k => rd G true er a δ fun x => rp G er lo δ fun l => rp G er hi δ fun h => ∃ xs, x = .list xs ∧ k (cutL xs l h)
  | _, _, _ => False
/-- what some names are given -/
def ra (er : Er) : CA → List Sl → (List Sl → Prop) → Prop
  | .nil, _, k => k []
  | .d e r, δ, k => rd G false er e δ fun x => ra er r δ fun s => k (.d x :: s)
  | .o e r, δ, k => rn G er e δ fun xs => ra er r δ fun s => k (.l xs :: s)
mutual
def ws (er : Er) : CS → Ed → List Sl → Prop
  | .asg i e, E, δ => rd G false er e δ fun x => E.nx (δ.set i (.d x))
  | .own i e, E, δ => rn G er e δ fun xs => E.nx (δ.set i (.l xs))
  | .frz i, E, δ => ∃ xs, δ[i]? = some (.l xs) ∧ E.nx (δ.set i (.d (.list xs)))
  | .new i, E, δ => E.nx (δ.set i (.m []))
  | .unp is e, E, δ => rd G false er e δ fun x => tgt (.t is) x δ E.nx
  | .par i j a b, E, δ => rl G false er (.cons a (.cons b .nil)) δ fun ds => ∃ x y, ds = [x, y] ∧ E.nx ((δ.set i (.d x)).set j (.d y))
  | .app i e, E, δ => ∃ xs, δ[i]? = some (.l xs) ∧ xs.length < 1000000 ∧ rd G false er e δ fun x => E.nx (δ.set i (.l (xs ++ [x])))
  | .ext i e, E, δ => ∃ xs, δ[i]? = some (.l xs) ∧ rd G false er e δ fun x => ∃ ys, x = .list ys ∧ xs.length + ys.length ≤ sizeLine ∧ E.nx (δ.set i (.l (xs ++ ys)))
  | .extL is i e, E, δ => ∃ xs, δ[i]? = some (.l xs) ∧ ∃ δ', frzS δ is = some δ' ∧ rd G false er0 e δ' fun x => ∃ ys, x = .list ys ∧ ys.all flatD = true ∧ xs.length + ys.length ≤ sizeLine ∧ E.nx (δ.set i (.l (xs ++ ys)))
  | .apop i j ix, E, δ => ∃ xs ys, δ[i]? = some (.l xs) ∧ δ[j]? = some (.l ys) ∧ i ≠ j ∧ xs.length < 1000000 ∧ rd G true er ix δ fun x => ∃ n m y, x = .int n ∧ (-(2 ^ 63) ≤ n ∧ n < 2 ^ 63) ∧ seqIndex? n ys.length = some m ∧ ys[m]? = some y ∧ E.nx ((δ.set j (.l (ys.eraseIdx m))).set i (.l (xs ++ [y])))
  | .par3 i j l a b c, E, δ => rl G false er (.cons a (.cons b (.cons c .nil))) δ fun ds => ∃ x y z, ds = [x, y, z] ∧ E.nx (((δ.set i (.d x)).set j (.d y)).set l (.d z))
  | .parS is a, E, δ => ra G er a δ fun ss => ∃ δ', setSl δ is ss = some δ' ∧ E.nx δ'
  | .put i ix e, E, δ => rd G false er e δ fun x => ∃ xs, δ[i]? = some (.l xs) ∧ rd G true er ix δ fun y => ∃ n j, y = .int n ∧ ixN xs.length n = some j ∧ E.nx (δ.set i (.l (xs.set j x)))
  | .dput i ix e, E, δ => rd G false er e δ fun x => ∃ kvs, δ[i]? = some (.m kvs) ∧ rd G true er ix δ fun y => ∃ key, y = kD key ∧ kvs.length < 1000000 ∧ E.nx (δ.set i (.m (putKD kvs key x)))
  | .aug i o e, E, δ => ∃ x, δ[i]? = some (.d (.int x)) ∧ rd G true er e δ fun y => ∃ n, y = .int n ∧ E.nx (δ.set i (.d (.int (if o = true then x + n else x - n))))
  | .exp e, E, δ => rd G true er e δ fun _ => E.nx δ
  | .ifs c a b, E, δ => rq G er c δ fun t => if t = true then wb er a E δ else wb er b E δ
  | .for_ tg it b, E, δ => ri G false er it δ fun items => ∃ W : Nat → List Sl → Prop, W 0 δ ∧
      (∀ i d δ', items[i]? = some d → W i δ' → tgt tg d δ' fun δ2 => wb er b { E with nx := W (i + 1), ct := W (i + 1), bk := E.nx } δ2) ∧ ∀ δ', W items.length δ' → E.nx δ'
  | .whl c b, E, δ => ∃ (W : List Sl → Prop) (μ : List Sl → Nat), W δ ∧ ∀ δ', W δ' → rq G er c δ' fun t =>
      if t = true then wb er b { E with nx := fun δ2 => W δ2 ∧ μ δ2 < μ δ', ct := fun δ2 => W δ2 ∧ μ δ2 < μ δ', bk := E.nx } δ' else E.nx δ'
  | .ret e, E, δ => rd G false er e δ E.rt
  | .retN, E, _ => E.rt .none
  | .retF e, E, δ => rn G er e δ E.rf
  | .pass, E, δ => E.nx δ
  | .brk, E, δ => E.bk δ
  | .cnt, E, δ => E.ct δ
  | .bad, _, _ => False
def wb (er : Er) : CB → Ed → List Sl → Prop
  | .nil, E, δ => E.nx δ
  | .cons s r, E, δ => ws er s { E with nx := fun δ' => wb er r E δ' } δ
end
end
end FR

/-! FrE: the reading of expressions is sound -/
namespace FR
open PySem L2

/-! ### readings over data as the hand layer's readings -/
def VB (sh : Bool) (K : PySem.W.Frag) (Hf H : Hp) (v : V) (d : D) : Prop := match sh with
  | true => VS K Hf H v d
  | false => Dv K Hf v d
theorem VB.s {sh : Bool} {K : PySem.W.Frag} {Hf H : Hp} {v : V} {d : D} (h : VB sh K Hf H v d) : VS K Hf H v d := by
  cases sh
  · exact .f h
  · exact h
theorem VB.mono {sh : Bool} {K : PySem.W.Frag} {Hf H Gf G : Hp} {v : V} {d : D} (e : Ext Hf H Gf G) (h : VB sh K Hf H v d) : VB sh K Gf G v d := by
  cases sh
  · exact Dv.mono e.fz h
  · exact VS.mono e h
/-- the classes of errors: where each stands, the name of its field if it has one -/
abbrev ErT := Str → Option (Addr × Option Str)
/-- an error of er, raised from here on, is one that W takes -/
def EC (K : PySem.W.Frag) (ct : ErT) (W : WX) (σ : L2.St) (Hf H : Hp) (er : Er) : Prop := ∀ c p, er c p → ∀ C,
  (∀ fld v dx Gf G, ct c = some (C, some fld) → Ext Hf H Gf G → Dv K Gf v p → G dx = some (.xd [(fld, v)]) → W (.ref C) (some dx) σ G) ∧
  (∀ Gf G, ct c = some (C, none) → Ext Hf H Gf G → W (.ref C) none σ G)
theorem EC.mono {K : PySem.W.Frag} {ct : ErT} {W : WX} {σ : L2.St} {Hf H Gf G : Hp} {er : Er} (q : EC K ct W σ Hf H er) (e : Ext Hf H Gf G) : EC K ct W σ Gf G er := fun c p h C =>
  ⟨fun fld v dx Jf J h1 h2 => (q c p h C).1 fld v dx Jf J h1 (e.trans h2), fun Jf J h1 h2 => (q c p h C).2 Jf J h1 (e.trans h2)⟩
theorem EC.none {K : PySem.W.Frag} {ct : ErT} {W : WX} {σ : L2.St} {Hf H : Hp} : EC K ct W σ Hf H er0 := fun _ _ h => h.elim
def LE (K : PySem.W.Frag) (ct : ErT) (W : WX) (sh : Bool) (r : Er → List Sl → KD → Prop) : TE := fun σ H Q => ∃ (Rf RH Hf : Hp) (δ : List Sl) (k : KD) (er : Er), SD K Rf RH Hf H σ δ ∧ EC K ct W σ Hf H er ∧ r er δ k ∧ ∀ d, k d → ∀ v Gf G, Ext Hf H Gf G → VB sh K Gf G v d → Q v G
def LT (K : PySem.W.Frag) (ct : ErT) (W : WX) (r : Er → List Sl → (Bool → Prop) → Prop) : TT := fun σ H Q => ∃ (Rf RH Hf : Hp) (δ : List Sl) (k : Bool → Prop) (er : Er), SD K Rf RH Hf H σ δ ∧ EC K ct W σ Hf H er ∧ r er δ k ∧ ∀ t, k t → ∀ Gf G, Ext Hf H Gf G → Q t G
abbrev VBA (sh : Bool) (K : PySem.W.Frag) (Hf H : Hp) : List V → List D → Prop := Paired (VB sh K Hf H)
def LA (K : PySem.W.Frag) (ct : ErT) (W : WX) (sh : Bool) (r : Er → List Sl → (List D → Prop) → Prop) : TA := fun σ H Q => ∃ (Rf RH Hf : Hp) (δ : List Sl) (k : List D → Prop) (er : Er), SD K Rf RH Hf H σ δ ∧ EC K ct W σ Hf H er ∧ r er δ k ∧ ∀ ds, k ds → ∀ vs Gf G, Ext Hf H Gf G → VBA sh K Gf G vs ds → Q vs G
def LO (K : PySem.W.Frag) (ct : ErT) (W : WX) (r : Er → List Sl → (Option Int → Prop) → Prop) : TO := fun σ H Q => ∃ (Rf RH Hf : Hp) (δ : List Sl) (k : Option Int → Prop) (er : Er), SD K Rf RH Hf H σ δ ∧ EC K ct W σ Hf H er ∧ r er δ k ∧ ∀ o, k o → ∀ Gf G, Ext Hf H Gf G → Q o G
theorem VBA.mono {sh : Bool} {K : PySem.W.Frag} {Hf H Gf G : Hp} {vs : List V} {ds : List D} (e : Ext Hf H Gf G) (h : VBA sh K Hf H vs ds) : VBA sh K Gf G vs ds := Paired.mapP h fun _ _ q => q.mono e
theorem VBA.dv {K : PySem.W.Frag} {Hf H : Hp} : ∀ {vs : List V} {ds : List D}, VBA false K Hf H vs ds → DvA K Hf vs ds
  | _, _, .nil => .nil
  | _, _, .cons a b => .cons a (VBA.dv b)
theorem VBA.vs {K : PySem.W.Frag} {Hf H : Hp} {vs : List V} {ds : List D} (h : VBA true K Hf H vs ds) : VSA K Hf H vs ds := h
theorem VBA.s {sh : Bool} {K : PySem.W.Frag} {Hf H : Hp} {vs : List V} {ds : List D} (h : VBA sh K Hf H vs ds) : VSA K Hf H vs ds := Paired.mapP h fun _ _ q => q.s
theorem VBA.append {sh : Bool} {K : PySem.W.Frag} {Hf H : Hp} : ∀ {vs ws : List V} {ds es : List D}, VBA sh K Hf H vs ds → VBA sh K Hf H ws es → VBA sh K Hf H (vs ++ ws) (ds ++ es)
  | _, _, _, _, .nil, t => t
  | _, _, _, _, .cons h r, t => .cons h (VBA.append r t)
theorem VBA.of_dv {sh : Bool} {K : PySem.W.Frag} {Hf H : Hp} : ∀ {ds : List D} {vs : List V}, DvA K Hf vs ds → VBA sh K Hf H vs ds := by
  intro ds
  induction ds with
  | nil => intro vs t; cases t; exact .nil
  | cons d ds ih =>
    intro vs t
    cases t with
    | cons a b => exact .cons (by cases sh; exact a; exact .f a) (ih b)

theorem _root_.L2.PE.weak {X : Cx} {e : Expr} {t t' : TE} (h : PE X e t) (w : ∀ σ H Q, t' σ H Q → t σ H Q) : PE X e t' := ⟨fun pins s σ H Q I q => h.run pins s σ H Q I (w σ H Q q)⟩
theorem _root_.L2.PT.weak {X : Cx} {e : Expr} {t t' : TT} (h : PT X e t) (w : ∀ σ H Q, t' σ H Q → t σ H Q) : PT X e t' := ⟨fun pins s σ H Q I q => h.run pins s σ H Q I (w σ H Q q)⟩
theorem _root_.L2.PW.weak {X : Cx} {e : Expr} {t t' : TT} (h : PW X e t) (w : ∀ σ H Q, t' σ H Q → t σ H Q) : PW X e t' := ⟨fun whole pins s σ H Q I q => h.run whole pins s σ H Q I (w σ H Q q)⟩
theorem _root_.L2.PA.weak {X : Cx} {e : List Expr} {t t' : TA} (h : PA X e t) (w : ∀ σ H Q, t' σ H Q → t σ H Q) : PA X e t' := ⟨fun pos pins s σ H Q I q => h.run pos pins s σ H Q I (w σ H Q q)⟩
theorem _root_.L2.PO.weak {X : Cx} {e : Option Expr} {t t' : TO} (h : PO X e t) (w : ∀ σ H Q, t' σ H Q → t σ H Q) : PO X e t' := ⟨fun pins s σ H Q I q => h.run pins s σ H Q I (w σ H Q q)⟩
theorem LE.up {K : PySem.W.Frag} {ct : ErT} {W : WX} {r : Er → List Sl → KD → Prop} {σ : L2.St} {H : Hp} {Q : VK} : LE K ct W true r σ H Q → LE K ct W false r σ H Q := fun ⟨Rf, RH, Hf, δ, k, er, S, qe, h, q⟩ =>
  ⟨Rf, RH, Hf, δ, k, er, S, qe, h, fun d hd v Gf G e hv => q d hd v Gf G e (VS.f hv)⟩
theorem pe_up {X : Cx} {e : Expr} {ct : ErT} {W : WX} {r : Er → List Sl → KD → Prop} (h : PE X e (LE X.K ct W false r)) (sh : Bool) : PE X e (LE X.K ct W sh r) := by
  cases sh
  · exact h
  · exact h.weak fun _ _ _ => LE.up

section
variable {X : Cx} {G : Ctx} {ct : ErT} {W : WX} {a b c e : Expr} {ca cb cc ce : CE} {pos : Pos}

/-! ### names, literals -/
theorem de_var {i : Nat} {x : Str} {sh : Bool} (hN : X.N[i]? = some x) (hv : Vis X.env.scope x) (hd : (x == ("__debug__" : Str)) = false) (hc : (x == ("__classdict__" : Str)) = false) : PE X (.Name x pos) (LE X.K ct W sh (fun er => rd G sh er (.var i))) := by
  refine (pe_var hN hv hd hc).weak fun σ H Q ⟨Rf, RH, Hf, δ, k, er, S, qe, h, q⟩ => ?_
  (dsimp only at h; unfold rd at h)
  cases sh with
  | false =>
    rw [if_neg Bool.false_ne_true] at h
    cases e : δ[i]? with
    | none => rw [e] at h; exact h.elim
    | some s =>
      rw [e] at h
      cases s with
      | d x =>
        obtain ⟨o, e1, e2⟩ := S.get e
        obtain ⟨v, e3, e4⟩ := e2
        subst e3
        exact ⟨v, e1, q _ h v Hf H (.refl S.sub) e4⟩
      | _ => exact h.elim
  | true =>
    rw [if_pos rfl] at h
    cases e : δ[i]? with
    | none => rw [e] at h; exact h.elim
    | some s =>
      rw [e] at h
      cases s with
      | d x =>
        obtain ⟨o, e1, e2⟩ := S.get e
        obtain ⟨v, e3, e4⟩ := e2
        subst e3
        exact ⟨v, e1, q _ h v Hf H (.refl S.sub) (VS.f e4)⟩
      | l xs =>
        obtain ⟨o, e1, e2⟩ := S.get e
        obtain ⟨l, e3, _, _, vs, e4, e5⟩ := e2
        subst e3
        exact ⟨_, e1, q _ h _ Hf H (.refl S.sub) (VS.l e4 e5)⟩
      | _ => exact h.elim
theorem de_lit {l : Lit} {e : Expr} {v : V} (h : PE X e (tC v)) (hv : ∀ H, Dv X.K H v l.d) : PE X e (LE X.K ct W false (fun er => rd G false er (.lit l))) :=
  h.weak fun σ H Q ⟨Rf, RH, Hf, δ, k, er, S, qe, r, q⟩ => q _ (by (dsimp only at r; unfold rd at r); exact r) v Hf H (.refl S.sub) (hv _)
theorem de_glb {x : Str} {d : D} {v : V} {u : Value} (hg : Gl X x) (hm : X.mg x = some u) (r : RelV v u) (hd : (x == ("__debug__" : Str)) = false) (hgl : G.gl x = some d) (hv : ∀ H, Dv X.K H v d) : PE X (.Name x pos) (LE X.K ct W false (fun er => rd G false er (.glb x))) :=
  (pe_glob hg hm r hd).weak fun σ H Q ⟨Rf, RH, Hf, δ, k, er, S, qe, h, q⟩ => by
    (dsimp only at h; unfold rd at h)
    obtain ⟨d', e, h⟩ := h
    rw [hgl] at e; cases e
    exact q _ h v Hf H (.refl S.sub) (hv _)

/-! ### operators -/
theorem op_binD (o : BO) : OpR X (binaryOp (match o with | .add => .Add | .sub => .Sub | .mul => .Mult | .mod => .Mod | .fdiv => .FloorDiv | .pow => .Pow)) (R2D X.K (binC o)) := by
  cases o
  · exact op_addD
  · exact op_subD
  · exact op_mulD
  · exact op_modD
  · exact op_fdivD
  · exact op_powD
theorem de_bin {op : Operator} (o : BO) (ho : OpR X (binaryOp op) (R2D X.K (binC o))) (ha : PE X a (LE X.K ct W true (fun er => rd G true er ca))) (hb : PE X b (LE X.K ct W true (fun er => rd G true er cb))) : PE X (.BinOp a op b pos) (LE X.K ct W false (fun er => rd G false er (.bin o ca cb))) :=
  (pe_op ho ha hb).weak fun σ H Q ⟨Rf, RH, Hf, δ, k, er, S, qe, r, q⟩ => by
    (dsimp only at r; unfold rd at r)
    exact ⟨Rf, RH, Hf, δ, _, er, S, qe, r, fun d hd v Gf G e hv => ⟨Rf, RH, Gf, δ, _, er, S.mono e, qe.mono e, hd, fun d2 hd2 v2 Jf J e2 hv2 =>
      ⟨Jf, d, d2, k, e2.sub, VS.mono e2 hv, hv2, hd2, fun z hz w Lf L e3 hw => q z hz w Lf L ((e.trans e2).trans e3) hw⟩⟩⟩
theorem de_neg (ha : PE X a (LE X.K ct W true (fun er => rd G true er ca))) : PE X (.UnaryOp .USub a pos) (LE X.K ct W false (fun er => rd G false er (.neg ca))) :=
  (pe_un un_neg ha).weak fun σ H Q ⟨Rf, RH, Hf, δ, k, er, S, qe, r, q⟩ => by
    (dsimp only at r; unfold rd at r)
    refine ⟨Rf, RH, Hf, δ, _, er, S, qe, r, fun d hd v Gf G e hv => ?_⟩
    obtain ⟨i, rfl, hk⟩ := hd
    exact ⟨i, VS.int_ hv, q _ hk _ Gf G e (.int _)⟩
theorem de_cmp {op : CmpOp} (o : CO) (ho : OpR X (compareOp op) (R2D X.K (cmpC o))) (hm : behindInMarks op b = false) (ha : PE X a (LE X.K ct W true (fun er => rd G true er ca))) (hb : PE X b (LE X.K ct W true (fun er => rd G true er cb))) :
    PE X (.Compare a [op] [b] pos) (LE X.K ct W false (fun er => rd G false er (.cmp o ca cb))) :=
  (pe_cmpR ho ha hb hm).weak fun σ H Q ⟨Rf, RH, Hf, δ, k, er, S, qe, r, q⟩ => by
    (dsimp only at r; unfold rd at r)
    exact ⟨Rf, RH, Hf, δ, _, er, S, qe, r, fun d hd v Gf G e hv => ⟨Rf, RH, Gf, δ, _, er, S.mono e, qe.mono e, hd, fun d2 hd2 v2 Jf J e2 hv2 =>
      ⟨Jf, d, d2, k, e2.sub, VS.mono e2 hv, hv2, hd2, fun z hz w Lf L e3 hw => q z hz w Lf L ((e.trans e2).trans e3) hw⟩⟩⟩
theorem de_chn {op op' : CmpOp} (o p : CO) (ho : OpR X (compareOp op) (R2D X.K (cmpC o))) (ho' : OpR X (compareOp op') (R2D X.K (cmpC p))) (hm : lastMarks [op, op'] [b, c] = false)
    (ha : PE X a (LE X.K ct W true (fun er => rd G true er ca))) (hb : PE X b (LE X.K ct W true (fun er => rd G true er cb))) (hc : PE X c (LE X.K ct W true (fun er => rd G true er cc))) :
    PE X (.Compare a [op, op'] [b, c] pos) (LE X.K ct W false (fun er => rd G false er (.chn o p ca cb cc))) :=
  (pe_chain ho ho' ha hb hc hm).weak fun σ H Q ⟨Rf, RH, Hf, δ, k, er, S, qe, r, q⟩ => by
    (dsimp only at r; unfold rd at r)
    refine ⟨Rf, RH, Hf, δ, _, er, S, qe, r, fun d hd v Gf G e hv => ⟨Rf, RH, Gf, δ, _, er, S.mono e, qe.mono e, hd, fun d2 hd2 v2 Jf J e2 hv2 =>
      ⟨Jf, d, d2, _, e2.sub, VS.mono e2 hv, hv2, hd2, fun z hz w Lf L e3 hw => ?_⟩⟩⟩
    obtain ⟨t, rfl, hz⟩ := hz
    cases hw
    refine ⟨t, rfl, ?_⟩
    cases t with
    | false =>
      rw [if_neg Bool.false_ne_true] at hz ⊢
      exact q _ hz _ Lf L ((e.trans e2).trans e3) (.bl _)
    | true =>
      rw [if_pos rfl] at hz ⊢
      exact ⟨Rf, RH, Lf, δ, _, er, ((S.mono e).mono e2).mono e3, ((qe.mono e).mono e2).mono e3, hz, fun d4 hd4 v4 Mf M e4 hv4 => ⟨Mf, d2, d4, k, e4.sub, VS.mono (e3.trans e4) hv2, hv4, hd4, fun z hz w Nf N e5 hw => q z hz w Nf N ((((e.trans e2).trans e3).trans e4).trans e5) hw⟩⟩

/-! ### and, or, not, if -/
theorem de_and {rest : List Expr} (ha : PE X a (LE X.K ct W false (fun er => rd G false er ca))) (hb : PE X (.BoolOp .And (b :: rest) pos) (LE X.K ct W false (fun er => rd G false er cb))) : PE X (.BoolOp .And (a :: b :: rest) pos) (LE X.K ct W false (fun er => rd G false er (.and ca cb))) :=
  (pe_andT ha hb).weak fun σ H Q ⟨Rf, RH, Hf, δ, k, er, S, qe, r, q⟩ => by
    (dsimp only at r; unfold rd at r)
    refine ⟨Rf, RH, Hf, δ, _, er, S, qe, r, fun d hd v Gf G e hv => ?_⟩
    obtain ⟨t, ht, hd⟩ := hd
    refine ⟨t, tru_D e.sub (.f hv) ht, ?_⟩
    cases t with
    | false => rw [if_neg Bool.false_ne_true] at hd ⊢; exact q _ hd v Gf G e hv
    | true =>
      rw [if_pos rfl] at hd ⊢
      exact ⟨Rf, RH, Gf, δ, k, er, S.mono e, qe.mono e, hd, fun d2 h2 v2 Jf J e2 hv2 => q d2 h2 v2 Jf J (e.trans e2) hv2⟩
theorem de_or {rest : List Expr} (ha : PE X a (LE X.K ct W false (fun er => rd G false er ca))) (hb : PE X (.BoolOp .Or (b :: rest) pos) (LE X.K ct W false (fun er => rd G false er cb))) : PE X (.BoolOp .Or (a :: b :: rest) pos) (LE X.K ct W false (fun er => rd G false er (.or ca cb))) :=
  (pe_orT ha hb).weak fun σ H Q ⟨Rf, RH, Hf, δ, k, er, S, qe, r, q⟩ => by
    (dsimp only at r; unfold rd at r)
    refine ⟨Rf, RH, Hf, δ, _, er, S, qe, r, fun d hd v Gf G e hv => ?_⟩
    obtain ⟨t, ht, hd⟩ := hd
    refine ⟨t, tru_D e.sub (.f hv) ht, ?_⟩
    cases t with
    | true => rw [if_pos rfl] at hd ⊢; exact q _ hd v Gf G e hv
    | false =>
      rw [if_neg Bool.false_ne_true] at hd ⊢
      exact ⟨Rf, RH, Gf, δ, k, er, S.mono e, qe.mono e, hd, fun d2 h2 v2 Jf J e2 hv2 => q d2 h2 v2 Jf J (e.trans e2) hv2⟩
theorem de_not (ha : PE X a (LE X.K ct W true (fun er => rd G true er ca))) : PE X (.UnaryOp .Not a pos) (LE X.K ct W false (fun er => rd G false er (.not ca))) :=
  (pe_notT ha).weak fun σ H Q ⟨Rf, RH, Hf, δ, k, er, S, qe, r, q⟩ => by
    (dsimp only at r; unfold rd at r)
    refine ⟨Rf, RH, Hf, δ, _, er, S, qe, r, fun d hd v Gf G e hv => ?_⟩
    obtain ⟨t, ht, hd⟩ := hd
    exact ⟨t, tru_D e.sub hv ht, q _ hd _ Gf G e (.bl _)⟩
theorem de_ite {qc : CQ} (hc : PT X c (LT X.K ct W (fun er => rq G er qc))) (ha : PE X a (LE X.K ct W false (fun er => rd G false er ca))) (hb : PE X b (LE X.K ct W false (fun er => rd G false er cb))) : PE X (.IfExp c a b pos) (LE X.K ct W false (fun er => rd G false er (.ite qc ca cb))) :=
  (pe_ifExp hc ha hb).weak fun σ H Q ⟨Rf, RH, Hf, δ, k, er, S, qe, r, q⟩ => by
    (dsimp only at r; unfold rd at r)
    refine ⟨Rf, RH, Hf, δ, _, er, S, qe, r, fun t ht Gf G e => ?_⟩
    cases t with
    | true => rw [if_pos rfl] at ht ⊢; exact ⟨Rf, RH, Gf, δ, k, er, S.mono e, qe.mono e, ht, fun d2 h2 v2 Jf J e2 hv2 => q d2 h2 v2 Jf J (e.trans e2) hv2⟩
    | false => rw [if_neg Bool.false_ne_true] at ht ⊢; exact ⟨Rf, RH, Gf, δ, k, er, S.mono e, qe.mono e, ht, fun d2 h2 v2 Jf J e2 hv2 => q d2 h2 v2 Jf J (e.trans e2) hv2⟩

/-! ### tests -/
theorem dt_v (ha : PE X a (LE X.K ct W true (fun er => rd G true er ca))) (he : ∀ whole, PySem.isTrue a X.env whole = (do let v ← whole; standAt a.pos; holding [v] (truthy v))) : PT X a (LT X.K ct W (fun er => rq G er (.v ca))) :=
  (pt_truth ha he).weak fun σ H Q ⟨Rf, RH, Hf, δ, k, er, S, qe, r, q⟩ => by
    (dsimp only at r; unfold rq at r)
    refine ⟨Rf, RH, Hf, δ, _, er, S, qe, r, fun d hd v Gf G e hv => ?_⟩
    obtain ⟨t, ht, hd⟩ := hd
    exact ⟨t, tru_D e.sub hv ht, q t hd Gf G e⟩
theorem dt_cmp {op : CmpOp} (o : CO) (ho : OpR X (compareOp op) (R2D X.K (cmpC o))) (hm : behindInMarks op b = false) (hbl : ∀ d e k, cmpC o d e k → cmpC o d e fun z => ∃ t, z = .bool t ∧ k z)
    (ha : PE X a (LE X.K ct W true (fun er => rd G true er ca))) (hb : PE X b (LE X.K ct W true (fun er => rd G true er cb))) :
    PT X (.Compare a [op] [b] pos) (LT X.K ct W (fun er => rq G er (.v (.cmp o ca cb)))) :=
  (pt_cmpR ho ha hb hm).weak fun σ H Q ⟨Rf, RH, Hf, δ, k, er, S, qe, r, q⟩ => by
    (dsimp only at r; unfold rq rd at r)
    refine ⟨Rf, RH, Hf, δ, _, er, S, qe, r, fun d hd v Gf G e hv => ⟨Rf, RH, Gf, δ, _, er, S.mono e, qe.mono e, hd, fun d2 hd2 v2 Jf J e2 hv2 =>
      ⟨Jf, d, d2, _, e2.sub, VS.mono e2 hv, hv2, hbl _ _ _ hd2, fun z hz w Lf L e3 hw => ?_⟩⟩⟩
    obtain ⟨t, rfl, u, hu, hz⟩ := hz
    cases hw
    cases hu
    exact ⟨t, rfl, q t hz Lf L ((e.trans e2).trans e3)⟩
theorem dt_chn {op op' : CmpOp} (o p : CO) (ho : OpR X (compareOp op) (R2D X.K (cmpC o))) (ho' : OpR X (compareOp op') (R2D X.K (cmpC p))) (hm : lastMarks [op, op'] [b, c] = false)
    (hbl : ∀ d e k, cmpC p d e k → cmpC p d e fun z => ∃ t, z = .bool t ∧ k z)
    (ha : PE X a (LE X.K ct W true (fun er => rd G true er ca))) (hb : PE X b (LE X.K ct W true (fun er => rd G true er cb))) (hc : PE X c (LE X.K ct W true (fun er => rd G true er cc))) :
    PT X (.Compare a [op, op'] [b, c] pos) (LT X.K ct W (fun er => rq G er (.v (.chn o p ca cb cc)))) :=
  (pt_chain ho ho' ha hb hc hm).weak fun σ H Q ⟨Rf, RH, Hf, δ, k, er, S, qe, r, q⟩ => by
    (dsimp only at r; unfold rq rd at r)
    refine ⟨Rf, RH, Hf, δ, _, er, S, qe, r, fun d hd v Gf G e hv => ⟨Rf, RH, Gf, δ, _, er, S.mono e, qe.mono e, hd, fun d2 hd2 v2 Jf J e2 hv2 =>
      ⟨Jf, d, d2, _, e2.sub, VS.mono e2 hv, hv2, hd2, fun z hz w Lf L e3 hw => ?_⟩⟩⟩
    obtain ⟨t, rfl, hz⟩ := hz
    cases hw
    refine ⟨t, rfl, ?_⟩
    cases t with
    | false =>
      rw [if_neg Bool.false_ne_true] at hz ⊢
      obtain ⟨u, hu, hz⟩ := hz
      cases hu
      exact ⟨false, rfl, q _ hz Lf L ((e.trans e2).trans e3)⟩
    | true =>
      rw [if_pos rfl] at hz ⊢
      refine ⟨Rf, RH, Lf, δ, _, er, ((S.mono e).mono e2).mono e3, ((qe.mono e).mono e2).mono e3, hz, fun d4 hd4 v4 Mf M e4 hv4 => ⟨Mf, d2, d4, _, e4.sub, VS.mono (e3.trans e4) hv2, hv4, hbl _ _ _ hd4, fun z hz w Nf N e5 hw => ?_⟩⟩
      obtain ⟨t, rfl, u, hu, hz⟩ := hz
      cases hw
      cases hu
      exact ⟨t, rfl, q t hz Nf N ((((e.trans e2).trans e3).trans e4).trans e5)⟩
theorem dt_not {qa : CQ} (ha : PT X a (LT X.K ct W (fun er => rq G er qa))) : PT X (.UnaryOp .Not a pos) (LT X.K ct W (fun er => rq G er (.not qa))) :=
  (pt_not ha).weak fun σ H Q ⟨Rf, RH, Hf, δ, k, er, S, qe, r, q⟩ => by
    (dsimp only at r; unfold rq at r)
    exact ⟨Rf, RH, Hf, δ, _, er, S, qe, r, fun t ht Gf G e => q _ ht Gf G e⟩
theorem dw_and {rest : List Expr} {qa qb : CQ} (ha : PT X a (LT X.K ct W (fun er => rq G er qa))) (hb : PW X (.BoolOp .And (b :: rest) pos) (LT X.K ct W (fun er => rq G er qb))) : PW X (.BoolOp .And (a :: b :: rest) pos) (LT X.K ct W (fun er => rq G er (.and qa qb))) :=
  (pw_and ha hb).weak fun σ H Q ⟨Rf, RH, Hf, δ, k, er, S, qe, r, q⟩ => by
    (dsimp only at r; unfold rq at r)
    refine ⟨Rf, RH, Hf, δ, _, er, S, qe, r, fun t ht Gf G e => ?_⟩
    cases t with
    | false => rw [if_neg Bool.false_ne_true] at ht ⊢; exact q _ ht Gf G e
    | true => rw [if_pos rfl] at ht ⊢; exact ⟨Rf, RH, Gf, δ, k, er, S.mono e, qe.mono e, ht, fun t2 h2 Jf J e2 => q t2 h2 Jf J (e.trans e2)⟩
theorem dw_or {rest : List Expr} {qa qb : CQ} (ha : PT X a (LT X.K ct W (fun er => rq G er qa))) (hb : PW X (.BoolOp .Or (b :: rest) pos) (LT X.K ct W (fun er => rq G er qb))) : PW X (.BoolOp .Or (a :: b :: rest) pos) (LT X.K ct W (fun er => rq G er (.or qa qb))) :=
  (pw_or ha hb).weak fun σ H Q ⟨Rf, RH, Hf, δ, k, er, S, qe, r, q⟩ => by
    (dsimp only at r; unfold rq at r)
    refine ⟨Rf, RH, Hf, δ, _, er, S, qe, r, fun t ht Gf G e => ?_⟩
    cases t with
    | true => rw [if_pos rfl] at ht ⊢; exact q _ ht Gf G e
    | false => rw [if_neg Bool.false_ne_true] at ht ⊢; exact ⟨Rf, RH, Gf, δ, k, er, S.mono e, qe.mono e, ht, fun t2 h2 Jf J e2 => q t2 h2 Jf J (e.trans e2)⟩

/-! ### some expressions in a row; displays -/
theorem da_nil {sh : Bool} : PA X [] (LA X.K ct W sh (fun er => rl G sh er .nil)) := pa_nil.weak fun σ H Q ⟨Rf, RH, Hf, δ, k, er, S, qe, r, q⟩ => q [] (by (dsimp only at r; unfold rl at r); exact r) [] Hf H (.refl S.sub) .nil
theorem da_cons {es : List Expr} {cl : CL} {sh : Bool} (ha : PE X e (LE X.K ct W sh (fun er => rd G sh er ce))) (hr : PA X es (LA X.K ct W sh (fun er => rl G sh er cl))) (hs : starEach (e :: es) X.env = (false, eval e X.env) :: starEach es X.env) :
    PA X (e :: es) (LA X.K ct W sh (fun er => rl G sh er (.cons ce cl))) :=
  (pa_cons ha hr hs).weak fun σ H Q ⟨Rf, RH, Hf, δ, k, er, S, qe, r, q⟩ => by
    (dsimp only at r; unfold rl at r)
    exact ⟨Rf, RH, Hf, δ, _, er, S, qe, r, fun d hd v Gf G e hv => ⟨Rf, RH, Gf, δ, _, er, S.mono e, qe.mono e, hd, fun ds hds vs Jf J e2 hvs => q _ hds _ Jf J (e.trans e2) (.cons (hv.mono e2) hvs)⟩⟩
theorem da_star {es : List Expr} {cl : CL} {sh : Bool} {p : Pos} (ha : PE X e (LE X.K ct W true (fun er => rd G true er ce))) (hr : PA X es (LA X.K ct W sh (fun er => rl G sh er cl))) :
    PA X (.Starred e p :: es) (LA X.K ct W sh (fun er => rl G sh er (.star ce cl))) :=
  (StX.pa_star ha hr).weak fun σ H Q ⟨Rf, RH, Hf, δ, k, er, S, qe, r, q⟩ => by
    (dsimp only at r; unfold rl at r)
    refine ⟨Rf, RH, Hf, δ, _, er, S, qe, r, fun d hd v Gf G e hv => ?_⟩
    obtain ⟨ds, hd, hr⟩ := hd
    rcases hd with rfl | rfl
    · obtain ⟨l, xs, rfl, hl, t⟩ := VS.lst_ e.sub hv
      exact ⟨l, xs, rfl, .inr (.of hl), Rf, RH, Gf, δ, _, er, S.mono e, qe.mono e, hr, fun ds2 hds vs Jf J e2 hvs => q _ hds _ Jf J (e.trans e2) (VBA.append (VBA.of_dv (t.mono e2.fz)) hvs)⟩
    · obtain ⟨l, xs, rfl, hl, t⟩ := VS.tup_ e.sub hv
      exact ⟨l, xs, rfl, .inl hl, Rf, RH, Gf, δ, _, er, S.mono e, qe.mono e, hr, fun ds2 hds vs Jf J e2 hvs => q _ hds _ Jf J (e.trans e2) (VBA.append (VBA.of_dv (t.mono e2.fz)) hvs)⟩
theorem de_tup {es : List Expr} {cl : CL} {x1} (h : PA X es (LA X.K ct W false (fun er => rl G false er cl))) : PE X (.Tuple es x1 pos) (LE X.K ct W false (fun er => rd G false er (.tup cl))) :=
  (pe_tup h).weak fun σ H Q ⟨Rf, RH, Hf, δ, k, er, S, qe, r, q⟩ => by
    (dsimp only at r; unfold rd at r)
    refine ⟨Rf, RH, Hf, δ, _, er, S, qe, r, fun ds hds vs Gf G e hv => ?_⟩
    have t := VBA.dv hv
    exact ⟨by rw [t.length]; exact hds.1, fun p hp => q _ hds.2 _ _ _ (e.trans (.new e.sub hp)) (dvNewT e.sub hp t)⟩
theorem de_lst {es : List Expr} {cl : CL} (h : PA X es (LA X.K ct W false (fun er => rl G false er cl))) : PE X (.List es pos) (LE X.K ct W false (fun er => rd G false er (.lst cl))) :=
  (pe_lst h).weak fun σ H Q ⟨Rf, RH, Hf, δ, k, er, S, qe, r, q⟩ => by
    (dsimp only at r; unfold rd at r)
    refine ⟨Rf, RH, Hf, δ, _, er, S, qe, r, fun ds hds vs Gf G e hv => ?_⟩
    have t := VBA.dv hv
    exact ⟨by rw [t.length]; exact hds.1, fun p hp => q _ hds.2 _ _ _ (e.trans (.new e.sub hp)) (dvNewL e.sub hp t)⟩

/-! ### subscripts, slices -/
theorem de_idx {i : Expr} {ci : CE} (ha : PE X a (LE X.K ct W true (fun er => rd G true er ca))) (hi : PE X i (LE X.K ct W true (fun er => rd G true er ci))) (hp : PlainIx i) : PE X (.Subscript a i pos) (LE X.K ct W false (fun er => rd G false er (.idx ca ci))) :=
  (pe_ix ix_D ha hi hp).weak fun σ H Q ⟨Rf, RH, Hf, δ, k, er, S, qe, r, q⟩ => by
    (dsimp only at r; unfold rd at r)
    exact ⟨Rf, RH, Hf, δ, _, er, S, qe, r, fun d hd v Gf G e hv => ⟨Rf, RH, Gf, δ, _, er, S.mono e, qe.mono e, hd, fun d2 hd2 v2 Jf J e2 hv2 =>
      ⟨Jf, d, d2, k, e2.sub, VS.mono e2 hv, hv2, hd2, fun z hz w Lf L e3 hw => q z hz w Lf L ((e.trans e2).trans e3) hw⟩⟩⟩
theorem dp_no : PO X none (LO X.K ct W (fun er => rp G er .no)) := po_none.weak fun σ H Q ⟨Rf, RH, Hf, δ, k, er, S, qe, r, q⟩ => q none (by (dsimp only at r; unfold rp at r); exact r) Hf H (.refl S.sub)
theorem dp_some (he : PE X e (LE X.K ct W true (fun er => rd G true er ce))) : PO X (some e) (LO X.K ct W (fun er => rp G er (.some ce))) :=
  (po_some he).weak fun σ H Q ⟨Rf, RH, Hf, δ, k, er, S, qe, r, q⟩ => by
    (dsimp only at r; unfold rp at r)
    refine ⟨Rf, RH, Hf, δ, _, er, S, qe, r, fun d hd v Gf G e hv => ?_⟩
    obtain ⟨i, rfl, hk⟩ := hd
    exact ⟨i, VS.int_ hv, q _ hk Gf G e⟩
theorem de_slc {lo hi : Option Expr} {cl ch : CP} {p2 : Pos} (ha : PE X a (LE X.K ct W true (fun er => rd G true er ca))) (hl : PO X lo (LO X.K ct W (fun er => rp G er cl))) (hh : PO X hi (LO X.K ct W (fun er => rp G er ch))) :
    PE X (.Subscript a (.Slice lo hi none p2) pos) (LE X.K ct W false (fun er => rd G false er (.slc ca cl ch))) :=
  (pe_slice sl_D ha hl hh).weak fun σ H Q ⟨Rf, RH, Hf, δ, k, er, S, qe, r, q⟩ => by
    (dsimp only at r; unfold rd at r)
    exact ⟨Rf, RH, Hf, δ, _, er, S, qe, r, fun d hd v Gf G e hv => ⟨Rf, RH, Gf, δ, _, er, S.mono e, qe.mono e, hd, fun l hd2 Jf J e2 => ⟨Rf, RH, Jf, δ, _, er, (S.mono e).mono e2, (qe.mono e).mono e2, hd2, fun u hd3 Lf L e3 =>
      ⟨Lf, d, k, e3.sub, VS.mono (e2.trans e3) hv, hd3, fun z hz w Mf M e4 hw => q z hz w Mf M (((e.trans e2).trans e3).trans e4) hw⟩⟩⟩⟩

/-! ### built-in functions, methods, isinstance -/
theorem de_bltB {x : Str} {p : Pos} {es : List Expr} {cl : CL} {f : BF} {id : String} (hf : f.val = .builtin id) (hcl : X.calm = true) (hgd : X.A.guards = some []) (hu : X.A.units + 66 < cLine) (hg : Gl X x) (hm : X.mg x = none) (hv : bootBuiltins x = some (.builtin id))
    (ha : PA X (e :: es) (LA X.K ct W true (fun er => rl G true er cl))) (hn : x ≠ "__name__") (hdb : (x == ("__debug__" : Str)) = false) (he : starEach (e :: es) X.env = (false, eval e X.env) :: starEach es X.env) (hpl : (backTo pos (starEach es X.env)).any (·.1) = false) :
    PE X (.Call (.Name x p) (e :: es) [] pos) (LE X.K ct W false (fun er => rd G false er (.blt f cl))) := by
  have hc : CallR X (.builtin id) (RCD X.K (bltC f)) := hf ▸ cr_blt f hcl hgd hu
  refine (pe_callB hc hg hm hv ha hn hdb he hpl).weak fun σ H Q ⟨Rf, RH, Hf, δ, k, er, S, qe, r, q⟩ => ?_
  (dsimp only at r; unfold rd at r)
  exact ⟨Rf, RH, Hf, δ, _, er, S, qe, r, fun ds hds vs Gf G e hv => ⟨Gf, ds, k, e.sub, hv, hds, fun z hz w Jf J e2 hw => q z hz w Jf J (e.trans e2) hw⟩⟩
theorem de_bltT {x : Str} {p : Pos} {es : List Expr} {cl : CL} {f : BF} {id : String} (hf : f.val = .type id) (hcl : X.calm = true) (hgd : X.A.guards = some []) (hu : X.A.units + 66 < cLine) (hg : Gl X x) (hm : X.mg x = none) (hv : bootBuiltins x = some (.type id))
    (ha : PA X (e :: es) (LA X.K ct W true (fun er => rl G true er cl))) (hn : x ≠ "__name__") (hdb : (x == ("__debug__" : Str)) = false) (he : starEach (e :: es) X.env = (false, eval e X.env) :: starEach es X.env) (hpl : (backTo pos (starEach es X.env)).any (·.1) = false) :
    PE X (.Call (.Name x p) (e :: es) [] pos) (LE X.K ct W false (fun er => rd G false er (.blt f cl))) := by
  have hc : CallR X (.type id) (RCD X.K (bltC f)) := hf ▸ cr_blt f hcl hgd hu
  refine (pe_callTy hc hg hm hv ha hn hdb he hpl).weak fun σ H Q ⟨Rf, RH, Hf, δ, k, er, S, qe, r, q⟩ => ?_
  (dsimp only at r; unfold rd at r)
  exact ⟨Rf, RH, Hf, δ, _, er, S, qe, r, fun ds hds vs Gf G e hv => ⟨Gf, ds, k, e.sub, hv, hds, fun z hz w Jf J e2 hw => q z hz w Jf J (e.trans e2) hw⟩⟩
end
end FR

/-! FrF: methods, isinstance, calls of the text's own defs, dicts -/
namespace FR
open PySem L2

def Lit.v : Lit → V
  | .non => .non | .bl b => .bl b | .int i => .int i | .str x => .str x
theorem Lit.dv {K : PySem.W.Frag} {H : Hp} : ∀ l : Lit, Dv K H l.v l.d
  | .non => .non | .bl b => .bl b | .int i => .int i | .str x => .str x
def Src.vv (vs zs : List V) : Src → V
  | .p i => vs.getD i .non
  | .k j => zs.getD j .non
  | .c _ l => l.v
def Src.uu (du : Nat → Value) (us ws : List Value) : Src → Value
  | .p i => us.getD i .none
  | .k j => ws.getD j .none
  | .c j _ => du j

/-! ### promises -/
/-- a def's promise, for stacks without a guard -/
structure FnG (P : Program) (w : World) (K : PySem.W.Frag) (mg : Str → Option Value) (base : Heap) (k : Nat) (f : Addr) (fd : FuncData) (ps : List Str) (sp : Sp) : Prop where
  len : ∀ vs H Q E, sp vs H Q E → vs.length = ps.length
  run : ∀ (A : Around) (outer : List Env) (s : Shared) (H : Hp) (args : Args) (us : List Value) (vs : List V) (Q : VK) (E : XK), Room k A → A.guards = some [] → Env0 P w K mg base A outer s H →
    BindsTo s fd args (ps.zip us) → Vals vs us → sp vs H Q E → codeAny (model P w) A (.call (.ref f) args) (CR (L2.CX P w) outer P w H s Q E) s
theorem FnG.mono {P : Program} {w : World} {K : PySem.W.Frag} {mg : Str → Option Value} {base : Heap} {j k : Nat} {f : Addr} {fd : FuncData} {ps : List Str} {sp : Sp} (F : FnG P w K mg base j f fd ps sp) (h : j ≤ k) : FnG P w K mg base k f fd ps sp :=
  ⟨F.len, fun A outer s H args us vs Q E hr => F.run A outer s H args us vs Q E (hr.mono h)⟩
/-- the promise over data -/
def EO (K : PySem.W.Frag) (ct : ErT) (E : XK) (Hf H : Hp) (er : Er) : Prop := EC K ct (fun c d _ G => E c d G) [] Hf H er
def spG (K : PySem.W.Frag) (ct : ErT) (n : Nat) (fs : FS) : Sp := fun vs H Q E => vs.length = n ∧ ∃ (Hf : Hp) (ds : List D) (k : KD) (er : Er), Ex Hf H ∧ DvA K Hf vs ds ∧ fs ds k er ∧
  (∀ d, k d → ∀ v Gf G, Ext Hf H Gf G → Dv K Gf v d → Q v G) ∧ EO K ct E Hf H er

section
variable {X : Cx} {G : Ctx} {ct : ErT} {W : WX} {a b c e : Expr} {ca cb cc ce : CE} {pos : Pos}
theorem run_fnG {pins : List (Addr × Obj)} {σ : L2.St} {H : Hp} {s : Shared} {Q : VK} {us zs : List Value} {kws : List (Str × Value)} {vs : List V} {k : Nat} {f : Addr} {fd : FuncData} {ps : List Str} {sp : Sp} {E : XK}
    (F : FnG X.prog X.w X.K X.mg X.base k f fd ps sp) (hr : Room k X.A) (hg : X.A.guards = some []) (tk : Takes X W) (I : L2.Inv X pins σ H s) (hb : BindsTo s fd ⟨us, kws⟩ (ps.zip zs)) (r : Vals vs zs) (h : sp vs H Q E)
    (hE : ∀ cls d H', E cls d H' → W cls d σ H') : wpAny (model X.prog X.w) X.A (call (.ref f) us kws) (EP X pins σ Q) X.xe s := by
  refine wpAny_call (codeAny_mono (F.run X.A X.stack s H ⟨us, kws⟩ zs vs Q E hr hg I.env0 hb r h) fun r s' hq => ?_)
  cases r with
  | error e => exact tk _ _ (XE.of_call I hE hq)
  | ok fl =>
    cases fl with
    | ret u => exact I.after hq
    | next => exact hq.elim
    | brk => exact hq.elim
    | cont => exact hq.elim

/-! ### arguments by keywords -/
theorem _root_.L2.PK.weak {X : Cx} {e : List Keyword} {t t' : TA} (h : PK X e t) (w : ∀ σ H Q, t' σ H Q → t σ H Q) : PK X e t' := ⟨fun pos pins s σ H Q I q => h.run pos pins s σ H Q I (w σ H Q q)⟩
theorem dk_nil {sh : Bool} : PK X [] (LA X.K ct W sh (fun er => rl G sh er .nil)) := pk_nil.weak fun σ H Q ⟨Rf, RH, Hf, δ, k, er, S, qe, r, q⟩ => q [] (by dsimp only at r; unfold rl at r; exact r) [] Hf H (.refl S.sub) .nil
theorem dk_cons {kws : List Keyword} {cl : CL} {sh : Bool} {nm : Option Str} {kp : Pos} (ha : PE X e (LE X.K ct W sh (fun er => rd G sh er ce))) (hr : PK X kws (LA X.K ct W sh (fun er => rl G sh er cl))) :
    PK X (⟨nm, e, kp⟩ :: kws) (LA X.K ct W sh (fun er => rl G sh er (.cons ce cl))) :=
  (pk_cons ha hr).weak fun σ H Q ⟨Rf, RH, Hf, δ, k, er, S, qe, r, q⟩ => by
    dsimp only at r
    unfold rl at r
    exact ⟨Rf, RH, Hf, δ, _, er, S, qe, r, fun d hd v Gf G e hv => ⟨Rf, RH, Gf, δ, _, er, S.mono e, qe.mono e, hd, fun ds hds vs Jf J e2 hvs => q _ hds _ Jf J (e.trans e2) (.cons (hv.mono e2) hvs)⟩⟩

theorem vals_getD {vs : List V} {us : List Value} (r : Vals vs us) (i : Nat) : RelV (vs.getD i .non) (us.getD i .none) := by
  rw [List.getD_eq_getElem?_getD, List.getD_eq_getElem?_getD]
  cases e : vs[i]? with
  | none => rw [r.none_of e]; rfl
  | some x => obtain ⟨u, e1, e2⟩ := r.get e; rw [e1]; exact e2
theorem src_vals {du : Nat → Value} {vs zs : List V} {us ws : List Value} (r : Vals vs us) (q : Vals zs ws) : ∀ src : List Src, (∀ j l, Src.c j l ∈ src → RelV l.v (du j)) → Vals (src.map (Src.vv vs zs)) (src.map (Src.uu du us ws))
  | [], _ => .nil
  | .p i :: t, h => .cons (vals_getD r i) (src_vals r q t fun j l m => h j l (List.mem_cons_of_mem _ m))
  | .k i :: t, h => .cons (vals_getD q i) (src_vals r q t fun j l m => h j l (List.mem_cons_of_mem _ m))
  | .c i l :: t, h => .cons (h i l List.mem_cons_self) (src_vals r q t fun j l m => h j l (List.mem_cons_of_mem _ m))
theorem dva_getD {K : PySem.W.Frag} {H : Hp} {vs : List V} {ds : List D} (r : DvA K H vs ds) (i : Nat) : Dv K H (vs.getD i .non) (ds.getD i .none) := by
  rw [List.getD_eq_getElem?_getD, List.getD_eq_getElem?_getD]
  cases e : ds[i]? with
  | none =>
    have h1 : vs[i]? = none := by rw [List.getElem?_eq_none_iff, r.length]; exact List.getElem?_eq_none_iff.mp e
    rw [h1]; exact .non
  | some x => obtain ⟨u, e1, e2⟩ := r.get e; rw [e1]; exact e2
theorem src_dva {K : PySem.W.Frag} {H : Hp} {vs zs : List V} {ds es : List D} (r : DvA K H vs ds) (q : DvA K H zs es) : ∀ src : List Src, DvA K H (src.map (Src.vv vs zs)) (src.map (Src.dat ds es))
  | [] => .nil
  | .p i :: t => .cons (dva_getD r i) (src_dva r q t)
  | .k i :: t => .cons (dva_getD q i) (src_dva r q t)
  | .c _ l :: t => .cons l.dv (src_dva r q t)

/-- what is known of a def of the text by its name -/
structure DefOk (X : Cx) (G : Ctx) (ct : ErT) (x : Str) : Prop where
  ex : ∃ (fs : FS) (f : Addr) (fd : FuncData) (ps : List Str) (k : Nat), G.fn x = some fs ∧ X.mg x = some (.ref f) ∧ PySem.W.keepIn X.K (.ref f) = true ∧ FnG X.prog X.w X.K X.mg X.base k f fd ps (spG X.K ct ps.length fs) ∧ Room k X.A ∧
    ∀ n ks src, shapeOf G x n ks = some src → src.length = ps.length ∧ ∃ du : Nat → Value, (∀ j l, Src.c j l ∈ src → RelV l.v (du j)) ∧ ∀ (s : Shared) (us ws : List Value), X.K.In s.heap → us.length = n → ws.length = ks.length → BindsTo s fd ⟨us, ks.zip ws⟩ (ps.zip (src.map (Src.uu du us ws)))
theorem no_stars : ∀ {es : List Expr} {env : Env} {pos : Pos}, (∀ e ∈ es, ∀ x p, e ≠ .Starred x p) → (backTo pos (starEach es env)).any (·.1) = false
  | [], _, _, _ => rfl
  | e :: es, env, pos, h => by
    have ih := no_stars (env := env) (pos := pos) (es := es) fun e he => h e (List.mem_cons_of_mem _ he)
    have h1 := h e List.mem_cons_self
    cases e <;> first | exact absurd rfl (h1 _ _) | exact ih
theorem starEach_cons {e : Expr} {es : List Expr} {env : Env} (h : ∀ x p, e ≠ .Starred x p) : starEach (e :: es) env = (false, eval e env) :: starEach es env := by
  cases e <;> first | exact absurd rfl (h _ _) | rfl
theorem kw_all {env : Env} {pos : Pos} : ∀ {kws : List Keyword} {ks : List Str}, kws.map (·.arg) = ks.map some → (backToKw pos (keywordEach kws env)).all (·.1.isSome) = true ∧ (backToKw pos (keywordEach kws env)).filterMap (·.1) = ks ∧
    (backToKw pos (keywordEach kws env)).any (·.1.isNone) = false
  | [], [], _ => ⟨rfl, rfl, rfl⟩
  | ⟨nm, v, p⟩ :: kws, k :: ks, h => by
    have h1 : nm = some k ∧ kws.map (·.arg) = ks.map some := by simpa using h
    obtain ⟨rfl, h2⟩ := h1
    obtain ⟨a1, a2, a3⟩ := kw_all (env := env) (pos := pos) h2
    refine ⟨?_, ?_, ?_⟩
    · show ((some k).isSome && (backToKw pos (keywordEach kws env)).all (·.1.isSome)) = true
      rw [a1] <;> rfl
    · show k :: (backToKw pos (keywordEach kws env)).filterMap (·.1) = k :: ks
      rw [a2]
    · show ((some k).isNone || (backToKw pos (keywordEach kws env)).any (·.1.isNone)) = false
      rw [a3] <;> rfl
  | [], _ :: _, h => by simp at h
  | _ :: _, [], h => by simp at h
theorem de_call {x : Str} {p : Pos} {es : List Expr} {kws : List Keyword} {ks : List Str} {cl cw : CL} (okx : DefOk X G ct x) (hgd : X.A.guards = some []) (tk : Takes X W) (hg : Gl X x) (hdb : (x == ("__debug__" : Str)) = false)
    (hes : ∀ e ∈ es, ∀ y q, e ≠ .Starred y q) (hks : kws.map (·.arg) = ks.map some) (hes0 : es = [] → cl = .nil) (hks0 : kws = [] → cw = .nil) (ha : PA X es (LA X.K ct W false (fun er => rl G false er cl))) (hk : PK X kws (LA X.K ct W false (fun er => rl G false er cw))) :
    PE X (.Call (.Name x p) es kws pos) (LE X.K ct W false (fun er => rd G false er (.call x cl ks cw))) := by
  refine ⟨fun pins s σ H Q I ⟨Rf, RH, Hf, δ, k, er, S, qe, r, q⟩ => ?_⟩
  dsimp only at r
  unfold rd at r
  obtain ⟨fs, f, fd, ps, kk, gf, hm, hkp, F, hr, hsh⟩ := okx.ex
  refine wpAny_Call_Name_kw (ld_glob I hg hm ?_ hdb)
  have fin : ∀ (s2 : Shared) (H2 Jf : Hp) (us ws : List Value) (vs zs : List V) (ds xs : List D), L2.Inv X pins σ H2 s2 → Vals vs us → Vals zs ws → Ext Hf H Jf H2 → DvA X.K Jf vs ds → DvA X.K Jf zs xs →
      (∃ fs src, G.fn x = some fs ∧ shapeOf G x ds.length ks = some src ∧ xs.length = ks.length ∧ fs (src.map (Src.dat ds xs)) k er) → wpAny (model X.prog X.w) X.A (call (.ref f) us (ks.zip ws)) (EP X pins σ Q) X.xe s2 := by
    intro s2 H2 Jf us ws vs zs ds xs I2 rv rz e2 dv dz ⟨fs', src, g1, g2, g3, g4⟩
    rw [gf] at g1; cases g1
    obtain ⟨l1, du, hdu, hb⟩ := hsh _ _ _ g2
    refine run_fnG (E := fun cls d H' => W cls d σ H') F hr hgd tk I2 (hb s2 us ws I2.kIn (by rw [← rv.length, dv.length]) (by rw [← rz.length, dz.length, g3])) (src_vals rv rz src hdu) ?_ fun _ _ _ h => h
    refine ⟨by rw [List.length_map, l1], Jf, _, k, er, e2.sub, src_dva dv dz src, g4, fun d hd v Gf J e3 hv => q d hd v Gf J (e2.trans e3) hv, fun c p h C => ?_⟩
    exact ⟨fun fld v dx Lf L h1 h2 => ((qe.mono e2) c p h C).1 fld v dx Lf L h1 h2, fun Lf L h1 h2 => ((qe.mono e2) c p h C).2 Lf L h1 h2⟩
  have hn := no_stars (env := X.env) (pos := pos) hes
  obtain ⟨k1, k2, k3⟩ := kw_all (env := X.env) (pos := pos) hks
  -- the positional arguments' reading at a state, then the keywords'
  let QA : List V → Hp → Prop := fun vs H1 => ∃ (Jf : Hp) (ds : List D), Ext Hf H Jf H1 ∧ VBA false X.K Jf H1 vs ds ∧ rl G false er cw δ fun xs => ∃ fs src, G.fn x = some fs ∧ shapeOf G x ds.length ks = some src ∧ xs.length = ks.length ∧ fs (src.map (Src.dat ds xs)) k er
  have hA : LA X.K ct W false (fun er => rl G false er cl) σ H QA := ⟨Rf, RH, Hf, δ, _, er, S, qe, r, fun ds hds vs Gf J e hv => ⟨Gf, ds, e, hv, hds⟩⟩
  have hK : ∀ (vs : List V) (H1 : Hp), QA vs H1 → ∃ (Jf : Hp) (ds : List D), Ext Hf H Jf H1 ∧ DvA X.K Jf vs ds ∧ LA X.K ct W false (fun er => rl G false er cw) σ H1 fun zs H2 => ∃ (Lf : Hp) (xs : List D), Ext Jf H1 Lf H2 ∧ VBA false X.K Lf H2 zs xs ∧
      ∃ fs src, G.fn x = some fs ∧ shapeOf G x ds.length ks = some src ∧ xs.length = ks.length ∧ fs (src.map (Src.dat ds xs)) k er := fun vs H1 ⟨Jf, ds, e, hv, hr⟩ =>
    ⟨Jf, ds, e, VBA.dv hv, Rf, RH, Jf, δ, _, er, S.mono e, qe.mono e, hr, fun xs hxs zs Lf L e2 hz => ⟨Lf, xs, e2, hz, hxs⟩⟩
  have fin2 : ∀ (s2 : Shared) (H1 H2 : Hp) (us ws : List Value) (vs zs : List V) (Jf Lf : Hp) (ds xs : List D), L2.Inv X pins σ H2 s2 → Vals vs us → Vals zs ws → Ext Hf H Jf H1 → DvA X.K Jf vs ds → Ext Jf H1 Lf H2 → VBA false X.K Lf H2 zs xs →
      (∃ fs src, G.fn x = some fs ∧ shapeOf G x ds.length ks = some src ∧ xs.length = ks.length ∧ fs (src.map (Src.dat ds xs)) k er) → wpAny (model X.prog X.w) X.A (call (.ref f) us (ks.zip ws)) (EP X pins σ Q) X.xe s2 :=
    fun s2 H1 H2 us ws vs zs Jf Lf ds xs I2 rv rz e1 dv e2 dz hq => fin s2 H2 Lf us ws vs zs ds xs I2 rv rz (e1.trans e2) (dv.mono e2.fz) (VBA.dv dz) hq
  have nilA : ∀ {c : CL} {δ : List Sl} {k : List D → Prop}, c = .nil → rl G false er c δ k → k [] := by
    intro c δ k e h
    subst e
    unfold rl at h
    exact h
  have fin0 : ∀ (vs : List V) (s1 : Shared) (H1 : Hp) (us : List Value), kws = [] → QA vs H1 → L2.Inv X pins σ H1 s1 → Vals vs us → wpAny (model X.prog X.w) X.A (call (.ref f) us []) (EP X pins σ Q) X.xe s1 := by
    intro vs s1 H1 us ek ⟨Jf, ds, e, hv, hq⟩ I1 rv
    have e2 : ks = [] := by
      subst ek
      simpa using hks.symm
    have h3 := nilA (hks0 ek) hq
    have h4 := fin s1 H1 Jf us [] vs [] ds [] I1 rv .nil e (VBA.dv hv) .nil h3
    rw [e2] at h4
    exact h4
  have eA0 : es = [] → QA [] H := fun ee => ⟨Hf, [], .refl S.sub, .nil, nilA (hes0 ee) r⟩
  cases kws with
  | nil =>
    cases es with
    | nil => exact PySem.W.callWith_K0 I.kIn hkp (fin0 [] s H [] rfl (eA0 rfl) I .nil)
    | cons e es =>
      exact PySem.W.callWith_K (h₀ := X.base) I.ok.mod.kin hkp (thn (ha.run pos pins s σ H _ I hA) fun us s1 ⟨vs, H1, I1, rv, q1⟩ => ⟨I1.kIn, fin0 vs s1 H1 us rfl q1 I1 rv⟩) (starEach_cons (hes e List.mem_cons_self)) (no_stars fun y hy => hes y (List.mem_cons_of_mem _ hy))
  | cons kw kws =>
    have step : ∀ (vs : List V) (us : List Value) (s1 : Shared) (H1 : Hp), QA vs H1 → L2.Inv X pins σ H1 s1 → Vals vs us →
        wpAny (model X.prog X.w) X.A (evalAll ((backToKw pos (keywordEach (kw :: kws) X.env)).map (·.2))) (fun ws s2 => X.K.In s2.heap ∧ wpAny (model X.prog X.w) X.A (call (.ref f) us (((backToKw pos (keywordEach (kw :: kws) X.env)).filterMap (·.1)).zip ws)) (EP X pins σ Q) X.xe s2) X.xe s1 := by
      intro vs us s1 H1 hq I1 rv
      obtain ⟨Jf, ds, e1, dv, hk1⟩ := hK vs H1 hq
      refine thn (hk.run pos pins s1 σ H1 _ I1 hk1) fun ws s2 ⟨zs, H2, I2, rz, Lf, xs, e2, dz, h4⟩ => ⟨I2.kIn, ?_⟩
      rw [k2]
      exact fin2 s2 H1 H2 us ws vs zs Jf Lf ds xs I2 rv rz e1 dv e2 dz h4
    cases es with
    | nil => exact PySem.W.callWith_KW0 (h₀ := X.base) I.ok.mod.kin hkp k1 (step [] [] s H (eA0 rfl) I .nil) (by rw [hn, k3]; rfl)
    | cons e es =>
      exact PySem.W.callWith_KW (h₀ := X.base) I.ok.mod.kin hkp k1 (thn (ha.run pos pins s σ H _ I hA) fun us s1 ⟨vs, H1, I1, rv, q1⟩ => step vs us s1 H1 q1 I1 rv) (by rw [hn, k3]; rfl) (starEach_cons (hes e List.mem_cons_self))
end
end FR

/-! FrG: methods, isinstance, a dict of the def's own, in expressions -/
namespace FR
open PySem L2

section
variable {X : Cx} {G : Ctx} {ct : ErT} {W : WX} {a b c e : Expr} {ca cb cc ce : CE} {pos apos : Pos}

/-! ### methods of texts -/
theorem de_m0 (m : MF) (slot : Slot "str" m.nm m.id) (ty : typeOf (.builtin m.id) = pure (.type "method_descriptor")) (ha : PE X a (LE X.K ct W true (fun er => rd G true er ca)))
    (hbase : attributeBase a m.nm X.env (eval a X.env) = eval a X.env) (hline : (apos.endLine == pos.line) = true) : PE X (.Call (.Attribute a m.nm apos) [] [] pos) (LE X.K ct W false (fun er => rd G false er (.mth m ca .nil))) :=
  (pe_m0 slot ty (mt_D m) ha hbase hline).weak fun σ H Q ⟨Rf, RH, Hf, δ, k, er, S, qe, r, q⟩ => by
    dsimp only at r
    unfold rd rl at r
    refine ⟨Rf, RH, Hf, δ, _, er, S, qe, r, fun d hd v Gf J e hv => ?_⟩
    obtain ⟨⟨y, rfl⟩, hd⟩ := hd
    exact ⟨⟨y, hv.str_⟩, Gf, _, _, k, e.sub, hv, .nil, hd, fun z hz w Lf L e3 hw => q z hz w Lf L (e.trans e3) hw⟩
theorem de_m1 (m : MF) (slot : Slot "str" m.nm m.id) (ty : typeOf (.builtin m.id) = pure (.type "method_descriptor")) (ha : PE X a (LE X.K ct W true (fun er => rd G true er ca))) (hb : PE X b (LE X.K ct W true (fun er => rd G true er cb)))
    (hs : starEach [b] X.env = [(false, eval b X.env)]) (hbase : attributeBase a m.nm X.env (eval a X.env) = eval a X.env) (hline : (apos.endLine == pos.line) = true) :
    PE X (.Call (.Attribute a m.nm apos) [b] [] pos) (LE X.K ct W false (fun er => rd G false er (.mth m ca (.cons cb .nil)))) :=
  (pe_m1 slot ty (mt_D m) ha hb hs hbase hline).weak fun σ H Q ⟨Rf, RH, Hf, δ, k, er, S, qe, r, q⟩ => by
    dsimp only at r
    unfold rd rl rl at r
    refine ⟨Rf, RH, Hf, δ, _, er, S, qe, r, fun d hd v Gf J e hv => ?_⟩
    obtain ⟨⟨y, rfl⟩, hd⟩ := hd
    refine ⟨⟨y, hv.str_⟩, Rf, RH, Gf, δ, _, er, S.mono e, qe.mono e, hd, fun d2 hd2 v2 Jf J e2 hv2 => ?_⟩
    exact ⟨Jf, _, _, k, e2.sub, VS.mono e2 hv, .cons hv2 .nil, hd2, fun z hz w Lf L e3 hw => q z hz w Lf L ((e.trans e2).trans e3) hw⟩

/-! ### isinstance -/
theorem ty_vs {Hf H : Hp} {v : V} {d : D} (sub : Ex Hf H) (h : VS X.K Hf H v d) (hd : ∀ kvs, d ≠ .dict kvs) : TyX X.K H v (.type (tyNm d)) := by
  cases h with
  | f h =>
    cases h with
    | non => exact .base .non
    | bl b => exact .base (.bl b)
    | int i => exact .base (.int i)
    | str x => exact .base (.str x)
    | lst h t => exact .base (.lst (sub _ _ h))
    | tup h t =>
      rcases sub.st h with h | ⟨o, its, n, e, c, h⟩
      · rcases h with h | ⟨o, h⟩
        · exact .base (.tup h)
        · exact .fTuple h
      · exact .kTuple e c
    | opq h => exact absurd rfl (hd _)
    | scr h => exact absurd rfl (hd _)
    | tpn _ _ _ => exact absurd rfl (hd _)
  | l h t => exact .base (.lst h)
theorem isiD_ok {d : D} {ts : List String} {b : Bool} (h : isiD d ts = some b) : (∀ kvs, d ≠ .dict kvs) ∧ b = ts.any (tyIs (tyNm d)) := by
  cases d <;> simp [isiD] at h ⊢ <;> exact h.symm
abbrev kindsA : List String := ["NoneType", "bool", "int", "str", "list", "tuple"]
abbrev kindsB : List String := ["NoneType", "bool", "int", "str", "list", "tuple", "dict"]
theorem kit_tab : (kindsA.all fun a => kindsB.all fun b => decide (kitB a b = some (tyIs a b))) = true := by decide +kernel
theorem kit_one {K : PySem.W.Frag} {d : D} {t : String} (hd : ∀ kvs, d ≠ .dict kvs) (ht : kindsB.contains t = true) : PySem.W.kitOne K (.type (tyNm d)) (.type t) = some (tyIs (tyNm d) t) := by
  have h1 : tyNm d ∈ kindsA := by cases d <;> first | exact absurd rfl (hd _) | simp [tyNm, kindsA]
  have h2 : t ∈ kindsB := by simpa using ht
  exact kit_ty (of_decide_eq_true (List.all_eq_true.mp (List.all_eq_true.mp kit_tab _ h1) _ h2))
theorem kit_any {K : PySem.W.Frag} {d : D} (hd : ∀ kvs, d ≠ .dict kvs) : ∀ {ts : List String}, ts.all kindsB.contains = true → PySem.W.kitAny K (.type (tyNm d)) (ts.map Value.type) = some (ts.any (tyIs (tyNm d)))
  | [], _ => kitAny_nil
  | t :: ts, h => by
    have h' : kindsB.contains t = true ∧ ts.all kindsB.contains = true := by
      rw [List.all_cons, Bool.and_eq_true] at h; exact h
    rw [List.map_cons, List.any_cons]
    exact kitAny_cons (kit_one hd h'.1) (fun e => by rw [e, Bool.false_or]; exact kit_any hd h'.2) fun e => by rw [e, Bool.true_or]
theorem pe_tyn {x : Str} {T : String} (hg : Gl X x) (hm : X.mg x = none) (hv : bootBuiltins x = some (.type T)) (hn : x ≠ "__name__") (hdb : (x == ("__debug__" : Str)) = false) : PE X (.Name x pos) (tC (.ty T)) :=
  ⟨fun pins s σ H Q I h => ld_blt I hg hm hv ⟨.ty T, H, I, rfl, h⟩ hn hdb⟩
theorem tyV_paired : ∀ ts : List String, Paired ClsV (ts.map V.ty) (ts.map Value.type)
  | [] => .nil
  | t :: ts => .cons (.ty t) (tyV_paired ts)
theorem de_isi1 {p : Pos} {t : Expr} {T : String} (hT : PE X t (tC (.ty T))) (hts : kindsB.contains T = true) (hg : Gl X "isinstance") (hm : X.mg "isinstance" = none) (ha : PE X a (LE X.K ct W true (fun er => rd G true er ca)))
    (hs : starEach [a, t] X.env = (false, eval a X.env) :: starEach [t] X.env) (hs2 : starEach [t] X.env = (false, eval t X.env) :: starEach [] X.env) (hpl : (backTo pos (starEach [t] X.env)).any (·.1) = false) :
    PE X (.Call (.Name "isinstance" p) [a, t] [] pos) (LE X.K ct W false (fun er => rd G false er (.isi ca [T]))) :=
  (pe_callB call_isi hg hm PyProof.Rows.boot_isinstance (pa_cons ha (pa_cons hT pa_nil hs2) hs) (by decide) (by decide) hs hpl).weak fun σ H Q ⟨Rf, RH, Hf, δ, k, er, S, qe, r, q⟩ => by
    dsimp only at r
    unfold rd at r
    refine ⟨Rf, RH, Hf, δ, _, er, S, qe, r, fun d hd v Gf J e hv => ?_⟩
    obtain ⟨b, hb, hd⟩ := hd
    obtain ⟨h1, rfl⟩ := isiD_ok hb
    refine ⟨v, .ty T, _, _, _, rfl, .ty T, ty_vs e.sub hv h1, kit_one h1 hts, q _ ?_ _ Gf J e (.bl _)⟩
    simpa using hd
theorem de_isiT {p tp : Pos} {ts : List Expr} {k : Nat} {Ts : List String} (hT : PA X ts (fun _ H Q => Q (Ts.map V.ty) H)) (hl : Ts.length ≤ sizeLine) (hts : Ts.all kindsB.contains = true) (hg : Gl X "isinstance") (hm : X.mg "isinstance" = none) (ha : PE X a (LE X.K ct W true (fun er => rd G true er ca)))
    (hs : starEach [a, .Tuple ts k tp] X.env = (false, eval a X.env) :: starEach [.Tuple ts k tp] X.env) (hs2 : starEach [.Tuple ts k tp] X.env = (false, eval (.Tuple ts k tp) X.env) :: starEach [] X.env) (hpl : (backTo pos (starEach [.Tuple ts k tp] X.env)).any (·.1) = false) :
    PE X (.Call (.Name "isinstance" p) [a, .Tuple ts k tp] [] pos) (LE X.K ct W false (fun er => rd G false er (.isi ca Ts))) :=
  (pe_callB call_isiT hg hm PyProof.Rows.boot_isinstance (pa_cons ha (pa_cons (pe_tup hT) pa_nil hs2) hs) (by decide) (by decide) hs hpl).weak fun σ H Q ⟨Rf, RH, Hf, δ, k, er, S, qe, r, q⟩ => by
    dsimp only at r
    unfold rd at r
    refine ⟨Rf, RH, Hf, δ, _, er, S, qe, r, fun d hd v Gf J e hv => ?_⟩
    obtain ⟨b, hb, hd⟩ := hd
    obtain ⟨h1, rfl⟩ := isiD_ok hb
    refine ⟨by rw [List.length_map]; exact hl, fun p hp => ?_⟩
    have e2 := Ext.own (o := .tup (Ts.map V.ty)) e.sub hp
    exact ⟨v, p, Ts.map V.ty, _, Ts.map Value.type, _, rfl, upd_same, tyV_paired Ts, ty_vs e2.sub (hv.mono e2) h1, kit_any h1 hts, q _ hd _ Gf _ (e.trans e2) (.bl _)⟩

/-! ### a dict of the def's own -/
theorem kv_val {K : PySem.W.Frag} {Hf : Hp} {k : Key} : ∀ {xs : List (Key × V)} {kvs : List (Key × D)}, KvA K Hf xs kvs → (∀ x, getKD kvs k = some x → ∃ v, valV xs k = some v ∧ Dv K Hf v x) ∧ (getKD kvs k = none → valV xs k = none)
  | _, _, .nil => ⟨fun _ h => by simp [getKD] at h, fun _ => rfl⟩
  | p :: _, q :: _, .cons h t => by
    obtain ⟨h1, h2⟩ := h
    have ih := kv_val (k := k) t
    unfold getKD valV at *
    rw [List.find?_cons, List.find?_cons, h1]
    cases e : decide (q.1 = k) with
    | true => exact ⟨fun x hx => ⟨p.2, rfl, by simp at hx; subst hx; exact h2⟩, fun hx => by simp at hx⟩
    | false => exact ih
theorem kv_any {K : PySem.W.Frag} {Hf : Hp} {k : Key} : ∀ {xs : List (Key × V)} {kvs : List (Key × D)}, KvA K Hf xs kvs → (xs.any fun kv => decide (kv.1 = k)) = (kvs.any fun kv => decide (kv.1 = k))
  | _, _, .nil => rfl
  | p :: _, q :: _, .cons h t => by rw [List.any_cons, List.any_cons, h.1, kv_any t]
theorem kv_set {K : PySem.W.Frag} {Hf : Hp} {k : Key} {v : V} {x : D} (hv : Dv K Hf v x) : ∀ {xs : List (Key × V)} {kvs : List (Key × D)}, KvA K Hf xs kvs →
    KvA K Hf (xs.map fun kv => if kv.1 = k then (kv.1, v) else kv) (kvs.map fun kv => if kv.1 = k then (kv.1, x) else kv)
  | _, _, .nil => .nil
  | p :: _, q :: _, .cons h t => by
    rw [List.map_cons, List.map_cons]
    refine .cons ?_ (kv_set hv t)
    rw [h.1]
    by_cases e : q.1 = k
    · rw [if_pos e, if_pos e]; exact ⟨rfl, hv⟩
    · rw [if_neg e, if_neg e]; exact h
theorem kv_app {K : PySem.W.Frag} {Hf : Hp} : ∀ {xs ys : List (Key × V)} {kvs lvs : List (Key × D)}, KvA K Hf xs kvs → KvA K Hf ys lvs → KvA K Hf (xs ++ ys) (kvs ++ lvs)
  | _, _, _, _, .nil, r => r
  | _, _, _, _, .cons h t, r => .cons h (kv_app t r)
theorem kv_put {K : PySem.W.Frag} {Hf : Hp} {k : Key} {v : V} {x : D} (hv : Dv K Hf v x) {xs : List (Key × V)} {kvs : List (Key × D)} (h : KvA K Hf xs kvs) : KvA K Hf (putK xs k v) (putKD kvs k x) := by
  unfold putK putKD
  rw [kv_any h]
  by_cases e : (kvs.any fun kv => decide (kv.1 = k)) = true
  · rw [if_pos e, if_pos e]; exact kv_set hv h
  · rw [if_neg e, if_neg e]; exact kv_app h (.cons ⟨rfl, hv⟩ .nil)
theorem kv_len {K : PySem.W.Frag} {Hf : Hp} : ∀ {xs : List (Key × V)} {kvs : List (Key × D)}, KvA K Hf xs kvs → xs.length = kvs.length
  | _, _, .nil => rfl
  | _, _, .cons _ t => by rw [List.length_cons, List.length_cons, kv_len t]
theorem kv_keys {K : PySem.W.Frag} {Hf : Hp} : ∀ {xs : List (Key × V)} {kvs : List (Key × D)}, KvA K Hf xs kvs → xs.map (·.1) = kvs.map (·.1)
  | _, _, .nil => rfl
  | _, _, .cons h t => by rw [List.map_cons, List.map_cons, h.1, kv_keys t]
theorem vs_key {K : PySem.W.Frag} {Hf H : Hp} {v : V} {k : Key} (h : VS K Hf H v (kD k)) : v = kV k := by
  cases k with
  | inl i => exact h.int_
  | inr x => exact h.str_
theorem SD.dict {K : PySem.W.Frag} {Rf RH Hf H : Hp} {σ : L2.St} {δ : List Sl} (S : SD K Rf RH Hf H σ δ) {i : Nat} {kvs : List (Key × D)} (h : δ[i]? = some (.m kvs)) : ∃ l xs, σ[i]? = some (some (.ref l)) ∧ RH l = none ∧ Hf l = none ∧ H l = some (.dK xs) ∧ KvA K Hf xs kvs := by
  obtain ⟨o, e1, l, rfl, e2, e3, xs, e4, e5⟩ := S.get h
  exact ⟨l, xs, e1, e2, e3, e4, e5⟩
theorem SD.list {K : PySem.W.Frag} {Rf RH Hf H : Hp} {σ : L2.St} {δ : List Sl} (S : SD K Rf RH Hf H σ δ) {i : Nat} {ds : List D} (h : δ[i]? = some (.l ds)) : ∃ l xs, σ[i]? = some (some (.ref l)) ∧ RH l = none ∧ Hf l = none ∧ H l = some (.lst xs) ∧ DvA K Hf xs ds := by
  obtain ⟨o, e1, l, rfl, e2, e3, xs, e4, e5⟩ := S.get h
  exact ⟨l, xs, e1, e2, e3, e4, e5⟩
variable {i : Nat} {x : Str} {p : Pos}
theorem de_dget (hu : X.A.units + 1 < cLine) (hN : X.N[i]? = some x) (hv : Vis X.env.scope x) (hd : (x == ("__debug__" : Str)) = false) (hc : (x == ("__classdict__" : Str)) = false) (hs : NoSl e) (he : PE X e (LE X.K ct W true (fun er => rd G true er ce))) :
    PE X (.Subscript (.Name x p) e pos) (LE X.K ct W false (fun er => rd G false er (.dget i ce))) :=
  (pe_dget hu (pe_var hN hv hd hc) he hs).weak fun σ H Q ⟨Rf, RH, Hf, δ, k, er, S, qe, r, q⟩ => by
    dsimp only at r
    unfold rd at r
    obtain ⟨kvs, h1, r⟩ := r
    obtain ⟨l, xs, e1, e2, e3, e4, e5⟩ := S.dict h1
    refine ⟨_, e1, Rf, RH, Hf, δ, _, er, S, qe, r, fun d hd v Gf J e hv => ?_⟩
    obtain ⟨key, z, rfl, g, hk⟩ := hd
    have e6 := KvA.mono e.fz e5
    obtain ⟨w, g1, g2⟩ := (kv_val e6).1 z g
    refine ⟨l, w, rfl, ?_, q z hk w Gf J e g2⟩
    rw [vs_key hv, ← g1]
    exact DGet.k (e.ex _ _ e4)
theorem de_dgtd {f : Expr} {cf : CE} (hu : X.A.units + 1 < cLine) (hN : X.N[i]? = some x) (hv : Vis X.env.scope x) (hd : (x == ("__debug__" : Str)) = false) (hc : (x == ("__classdict__" : Str)) = false) (hm : M2 X (.Name x p) "get" apos e f pos)
    (he : PE X e (LE X.K ct W true (fun er => rd G true er ce))) (hf : PE X f (LE X.K ct W false (fun er => rd G false er cf))) :
    PE X (.Call (.Attribute (.Name x p) "get" apos) [e, f] [] pos) (LE X.K ct W false (fun er => rd G false er (.dgtd i ce cf))) :=
  (pe_dget2 hu (pe_var hN hv hd hc) he hf hm).weak fun σ H Q ⟨Rf, RH, Hf, δ, k, er, S, qe, r, q⟩ => by
    dsimp only at r
    unfold rd at r
    obtain ⟨kvs, h1, r⟩ := r
    obtain ⟨l, xs, e1, e2, e3, e4, e5⟩ := S.dict h1
    refine ⟨_, e1, l, rfl, .inl ⟨_, .inl e4⟩, Rf, RH, Hf, δ, _, er, S, qe, r, fun d hd v Gf J e hv => ⟨Rf, RH, Gf, δ, _, er, S.mono e, qe.mono e, hd, fun d2 hd2 v2 Jf L e2 hv2 => ?_⟩⟩
    obtain ⟨key, rfl, hk⟩ := hd2
    have e6 := KvA.mono (e.trans e2).fz e5
    refine ⟨valV xs key, ?_, ?_⟩
    · rw [vs_key hv]
      exact DGet.k ((e.trans e2).ex _ _ e4)
    · cases g : getKD kvs key with
      | none => rw [(kv_val e6).2 g]; rw [g] at hk; exact q _ hk _ Jf L (e.trans e2) hv2
      | some z =>
        obtain ⟨w, g1, g2⟩ := (kv_val e6).1 z g
        rw [g1]; rw [g] at hk
        exact q _ hk _ Jf L (e.trans e2) g2
theorem kv_some {K : PySem.W.Frag} {Hf : Hp} {k : Key} {xs : List (Key × V)} {kvs : List (Key × D)} (h : KvA K Hf xs kvs) : (valV xs k).isSome = (getKD kvs k).isSome := by
  cases g : getKD kvs k with
  | none => rw [(kv_val h).2 g] <;> rfl
  | some z => obtain ⟨w, g1, g2⟩ := (kv_val h).1 z g; rw [g1]; rfl
theorem dc_din (hu : X.A.units + 1 < cLine) (hN : X.N[i]? = some x) (hv : Vis X.env.scope x) (hd : (x == ("__debug__" : Str)) = false) (hc : (x == ("__classdict__" : Str)) = false) (he : PE X e (LE X.K ct W true (fun er => rd G true er ce))) :
    PC X .In e (.Name x p) (LE X.K ct W false (fun er => rd G false er (.din false ce i))) :=
  ⟨fun pins s σ H Q I ⟨Rf, RH, Hf, δ, k, er, S, qe, r, q⟩ => (pc_din hu he (pe_var hN hv hd hc)).run pins s σ H Q I (by
    dsimp only at r
    unfold rd at r
    obtain ⟨kvs, h1, r⟩ := r
    obtain ⟨l, xs, e1, e2, e3, e4, e5⟩ := S.dict h1
    refine ⟨Rf, RH, Hf, δ, _, er, S, qe, r, fun d hd v Gf J e hv => ?_⟩
    obtain ⟨key, rfl, hk⟩ := hd
    rw [vs_key hv]
    refine ⟨_, e1, l, valV xs key, rfl, DGet.k (e.ex _ _ e4), ?_⟩
    rw [kv_some (KvA.mono e.fz e5)]
    rw [Bool.false_xor] at hk
    exact q _ hk _ Gf J e (.bl _))⟩
theorem dc_dnot (hu : X.A.units + 1 < cLine) (hN : X.N[i]? = some x) (hv : Vis X.env.scope x) (hd : (x == ("__debug__" : Str)) = false) (hc : (x == ("__classdict__" : Str)) = false) (he : PE X e (LE X.K ct W true (fun er => rd G true er ce))) :
    PC X .NotIn e (.Name x p) (LE X.K ct W false (fun er => rd G false er (.din true ce i))) :=
  ⟨fun pins s σ H Q I ⟨Rf, RH, Hf, δ, k, er, S, qe, r, q⟩ => (pc_dnotin hu he (pe_var hN hv hd hc)).run pins s σ H Q I (by
    dsimp only at r
    unfold rd at r
    obtain ⟨kvs, h1, r⟩ := r
    obtain ⟨l, xs, e1, e2, e3, e4, e5⟩ := S.dict h1
    refine ⟨Rf, RH, Hf, δ, _, er, S, qe, r, fun d hd v Gf J e hv => ?_⟩
    obtain ⟨key, rfl, hk⟩ := hd
    rw [vs_key hv]
    refine ⟨_, e1, l, valV xs key, rfl, DGet.k (e.ex _ _ e4), ?_⟩
    rw [kv_some (KvA.mono e.fz e5)]
    rw [Bool.true_xor] at hk
    exact q _ hk _ Gf J e (.bl _))⟩
theorem dt_din (hu : X.A.units + 1 < cLine) (hN : X.N[i]? = some x) (hv : Vis X.env.scope x) (hd : (x == ("__debug__" : Str)) = false) (hc : (x == ("__classdict__" : Str)) = false) (he : PE X e (LE X.K ct W true (fun er => rd G true er ce))) :
    PT X (.Compare e [.In] [.Name x p] pos) (LT X.K ct W (fun er => rq G er (.v (.din false ce i)))) :=
  (pt_cmp (pc_din hu he (pe_var hN hv hd hc)) rfl).weak fun σ H Q ⟨Rf, RH, Hf, δ, k, er, S, qe, r, q⟩ => by
    dsimp only at r
    unfold rq rd at r
    obtain ⟨kvs, h1, r⟩ := r
    obtain ⟨l, xs, e1, e2, e3, e4, e5⟩ := S.dict h1
    refine ⟨Rf, RH, Hf, δ, _, er, S, qe, r, fun d hd v Gf J e hv => ?_⟩
    obtain ⟨key, rfl, t, ht, hk⟩ := hd
    rw [vs_key hv]
    refine ⟨_, e1, l, valV xs key, rfl, DGet.k (e.ex _ _ e4), _, rfl, ?_⟩
    rw [kv_some (KvA.mono e.fz e5)]
    rw [Bool.false_xor] at ht
    cases ht
    exact q _ hk Gf J e
theorem dt_dnot (hu : X.A.units + 1 < cLine) (hN : X.N[i]? = some x) (hv : Vis X.env.scope x) (hd : (x == ("__debug__" : Str)) = false) (hc : (x == ("__classdict__" : Str)) = false) (he : PE X e (LE X.K ct W true (fun er => rd G true er ce))) :
    PT X (.Compare e [.NotIn] [.Name x p] pos) (LT X.K ct W (fun er => rq G er (.v (.din true ce i)))) :=
  (pt_cmp (pc_dnotin hu he (pe_var hN hv hd hc)) rfl).weak fun σ H Q ⟨Rf, RH, Hf, δ, k, er, S, qe, r, q⟩ => by
    dsimp only at r
    unfold rq rd at r
    obtain ⟨kvs, h1, r⟩ := r
    obtain ⟨l, xs, e1, e2, e3, e4, e5⟩ := S.dict h1
    refine ⟨Rf, RH, Hf, δ, _, er, S, qe, r, fun d hd v Gf J e hv => ?_⟩
    obtain ⟨key, rfl, t, ht, hk⟩ := hd
    rw [vs_key hv]
    refine ⟨_, e1, l, valV xs key, rfl, DGet.k (e.ex _ _ e4), _, rfl, ?_⟩
    rw [kv_some (KvA.mono e.fz e5)]
    rw [Bool.true_xor] at ht
    cases ht
    exact q _ hk Gf J e
theorem de_dsrt {p2 : Pos} (hcl : X.calm = true) (hN : X.N[i]? = some x) (hv : Vis X.env.scope x) (hd : (x == ("__debug__" : Str)) = false) (hc : (x == ("__classdict__" : Str)) = false) (hg : Gl X "sorted") (hm : X.mg "sorted" = none)
    : PE X (.Call (.Name "sorted" p2) [.Name x p] [] pos) (LE X.K ct W false (fun er => rd G false er (.dsrt i))) :=
  (pe_callB (call_sortedDI hcl) hg hm (by decide +kernel) (pa_cons (pe_var hN hv hd hc) pa_nil)).weak fun σ H Q ⟨Rf, RH, Hf, δ, k, er, S, qe, r, q⟩ => by
    dsimp only at r
    unfold rd at r
    obtain ⟨kvs, ns, h1, h2, h3, r⟩ := r
    obtain ⟨l, xs, e1, e2, e3, e4, e5⟩ := S.dict h1
    refine ⟨_, e1, l, xs, ns, rfl, .inl e4, (kv_keys e5).trans h2, h3, fun ys p hp hs hn => q _ (r ys hp hs) _ _ _ (.new S.sub hn) (dvNewL S.sub hn DvA.of_ints)⟩
end
end FR

/-! FrGa: x[::-1], f-strings, .index, tuples known to their object -/
namespace FR
open PySem L2

section
variable {X : Cx} {G : Ctx} {ct : ErT} {W : WX} {a b c e : Expr} {ca cb cc ce : CE} {pos apos : Pos} {i : Nat} {x : Str} {p : Pos}
theorem DvA.revd {K : PySem.W.Frag} {H : Hp} {vs : List V} {ds : List D} (h : DvA K H vs ds) : DvA K H vs.reverse ds.reverse := h.rev
theorem de_rev {k : Nat} {p1 p2 p3 : Pos} (ha : PE X a (LE X.K ct W true (fun er => rd G true er ca))) : PE X (.Subscript a (.Slice none none (some (.UnaryOp .USub (.Constant (.int 1) k p1) p2)) p3) pos) (LE X.K ct W false (fun er => rd G false er (.rev ca))) :=
  (pe_revA ha).weak fun σ H Q ⟨Rf, RH, Hf, δ, k, er, S, qe, r, q⟩ => by
    dsimp only at r
    unfold rd at r
    refine ⟨Rf, RH, Hf, δ, _, er, S, qe, r, fun d hd v Gf J e hv => ?_⟩
    cases d with
    | list ds =>
      obtain ⟨l, xs, rfl, hl, t⟩ := VS.lst_ e.sub hv
      exact ⟨l, xs, rfl, .inl ⟨.inl (.of hl), fun p hp => q _ hd _ _ _ (e.trans (.new e.sub hp)) (dvNewL e.sub hp t.rev)⟩⟩
    | tuple ds =>
      obtain ⟨l, xs, rfl, hl, t⟩ := VS.tup_ e.sub hv
      exact ⟨l, xs, rfl, .inr ⟨hl, fun p hp => q _ hd _ _ _ (e.trans (.new e.sub hp)) (dvNewT e.sub hp t.rev)⟩⟩
    | none => exact hd.elim
    | bool _ => exact hd.elim
    | int _ => exact hd.elim
    | str _ => exact hd.elim
    | dict _ => exact hd.elim

/-! ### f-strings -/
/-- the parts of a written text -/
inductive FJ (X : Cx) (G : Ctx) (ct : ErT) (W : WX) : List Expr → CL → List TE → Prop
  | nil : FJ X G ct W [] .nil []
  | fmt {e : Expr} {p : Pos} {a : CE} {es : List Expr} {r : CL} {ts : List TE} : PE X e (LE X.K ct W true (fun er => rd G true er a)) → FJ X G ct W es r ts → FJ X G ct W (.FormattedValue e (-1) none p :: es) (.cons a r) (tFmt (LE X.K ct W true (fun er => rd G true er a)) :: ts)
  | lit {e : Expr} {x : Str} {es : List Expr} {r : CL} {ts : List TE} : PE X e (LE X.K ct W true (fun er => rd G true er (.lit (.str x)))) → FJ X G ct W es r ts → FJ X G ct W (e :: es) (.cons (.lit (.str x)) r) (LE X.K ct W true (fun er => rd G true er (.lit (.str x))) :: ts)
theorem FJ.pj {es : List Expr} {cl : CL} {ts : List TE} (h : FJ X G ct W es cl ts) : PJ X es ts := by
  induction h with
  | nil => exact .nil
  | fmt h _ ih => exact .cons (pe_fmt h) ih
  | lit h _ ih => exact .cons h ih
theorem app_le {acc y : Str} (h : (acc ++ y).length ≤ sizeLine) : y.length ≤ sizeLine := by
  have e : (acc ++ y).length = acc.length + y.length := by
    show (acc.cps ++ y.cps).size = _
    rw [Array.size_append]; rfl
  omega
theorem FJ.read {es : List Expr} {cl : CL} {ts : List TE} (h : FJ X G ct W es cl ts) : ∀ {acc : Str} {σ : L2.St} {H : Hp} {Q : Str → Hp → Prop} {Rf RH Hf : Hp} {δ : List Sl} {k : KD} {er : Er}, SD X.K Rf RH Hf H σ δ → EC X.K ct W σ Hf H er → rf G er cl acc δ k →
    (∀ y, k (.str y) → ∀ Gf J, Ext Hf H Gf J → Q y J) → tJs ts acc σ H Q := by
  induction h with
  | nil =>
    intro acc σ H Q Rf RH Hf δ k er S qe r q
    unfold rf at r
    exact q _ r Hf H (.refl S.sub)
  | fmt h _ ih =>
    intro acc σ H Q Rf RH Hf δ k er S qe r q
    unfold rf at r
    refine ⟨Rf, RH, Hf, δ, _, er, S, qe, r, fun d hd v Gf J e hv => ?_⟩
    cases d with
    | str y => exact .inl ⟨y, VS.str_ hv, app_le hd.1, y, rfl, hd.1, ih (S.mono e) (qe.mono e) hd.2 fun z hz Lf L e2 => q z hz Lf L (e.trans e2)⟩
    | int i => exact .inr ⟨i, VS.int_ hv, hd.1, _, rfl, hd.2.1, ih (S.mono e) (qe.mono e) hd.2.2 fun z hz Lf L e2 => q z hz Lf L (e.trans e2)⟩
    | none => exact hd.elim
    | bool _ => exact hd.elim
    | list _ => exact hd.elim
    | tuple _ => exact hd.elim
    | dict _ => exact hd.elim
  | @lit e x es r ts h _ ih =>
    intro acc σ H Q Rf RH Hf δ k er S qe r q
    unfold rf rd at r
    refine ⟨Rf, RH, Hf, δ, fun d => d = .str x, er, S, qe, by dsimp only; unfold rd; rfl, fun d hd v Gf J e hv => ?_⟩
    subst hd
    exact ⟨x, VS.str_ hv, r.1, ih (S.mono e) (qe.mono e) r.2 fun z hz Lf L e2 => q z hz Lf L (e.trans e2)⟩
theorem de_fs {v1 v2 : Expr} {rest : List Expr} {cl : CL} {ts : List TE} (h : FJ X G ct W (v1 :: v2 :: rest) cl ts) : PE X (.JoinedStr (v1 :: v2 :: rest) pos) (LE X.K ct W false (fun er => rd G false er (.fs cl))) :=
  (pe_joined h.pj).weak fun σ H Q ⟨Rf, RH, Hf, δ, k, er, S, qe, r, q⟩ => by
    dsimp only at r
    unfold rd at r
    exact h.read S qe r fun y hy Gf J e => q _ hy _ Gf J e (.str _)

/-! ### .index -/
theorem lix_at {K : PySem.W.Frag} {Hf : Hp} {vs : List V} {ds : List D} {v : V} {y : D} (t : DvA K Hf vs ds) (hv : Dv K Hf v y) (f : flatD y = true) (fs : ds.all flatD = true) {j : Nat} (h : ds.findIdx? (fun z => PyData.eqv z y) = some j) :
    ∃ z, vs[j]? = some z ∧ eqV z v = true ∧ ∀ m z', m < j → vs[m]? = some z' → eqV z' v = false := by
  rw [List.findIdx?_eq_some_iff_getElem] at h
  obtain ⟨hj, h1, h2⟩ := h
  have fl : ∀ (m : Nat) (hm : m < ds.length), flatD ds[m] = true := fun m hm => List.all_eq_true.mp fs _ (List.getElem_mem hm)
  obtain ⟨z, e1, e2⟩ := t.get (List.getElem?_eq_getElem hj)
  refine ⟨z, e1, by rw [flat_eqv e2 hv (fl j hj) f]; exact h1, fun m z' hm e => ?_⟩
  obtain ⟨d, d1, d2⟩ := t.getV e
  obtain ⟨hm', d3⟩ := List.getElem?_eq_some_iff.mp d1
  subst d3
  rw [flat_eqv d2 hv (fl m hm') f]
  simpa using h2 m hm
theorem de_lix (ha : PE X a (LE X.K ct W true (fun er => rd G true er ca))) (hb : PE X b (LE X.K ct W true (fun er => rd G true er cb))) (hs : starEach [b] X.env = [(false, eval b X.env)]) (hbase : attributeBase a "index" X.env (eval a X.env) = eval a X.env) (hline : (apos.endLine == pos.line) = true) :
    PE X (.Call (.Attribute a "index" apos) [b] [] pos) (LE X.K ct W false (fun er => rd G false er (.lix ca cb))) :=
  (pe_bm (T := "list") (id := "list.index") PySem.F.plainAttrs_list PySem.F.slot_list_index PySem.F.type_list_index mt_index ha (pa_cons hb pa_nil (by rw [hs]; rfl)) hbase (by rw [hs]; rfl) hline (by rw [hs]; rfl) rfl).weak fun σ H Q ⟨Rf, RH, Hf, δ, k, er, S, qe, r, q⟩ => by
    dsimp only at r
    unfold rd at r
    refine ⟨Rf, RH, Hf, δ, _, er, S, qe, r, fun d hd v Gf J e hv => ?_⟩
    obtain ⟨xs, rfl, hd⟩ := hd
    obtain ⟨l, vs, rfl, hl, t⟩ := VS.lst_ e.sub hv
    refine ⟨.inl ⟨rfl, vs, .inl (.of hl)⟩, Rf, RH, Gf, δ, _, er, S.mono e, qe.mono e, hd, fun d2 hd2 v2 Jf L e2 hv2 => ?_⟩
    obtain ⟨f, fs, j, hj, hk⟩ := hd2
    obtain ⟨z, z1, z2, z3⟩ := lix_at ((t.mono e2.fz).mono e2.sub) (hv2.all e2.sub) f fs hj
    exact ⟨l, vs, v2, j, z, rfl, rfl, .inl (.of (e2.ex _ _ hl)), flat_v (hv2.all e2.sub) f, flat_all (t.mono e2.fz) fs, z1, z2, z3, q _ hk _ Jf L (e.trans e2) (.int _)⟩
theorem SD.tupN {K : PySem.W.Frag} {Rf RH Hf H : Hp} {σ : L2.St} {δ : List Sl} (S : SD K Rf RH Hf H σ δ) {i : Nat} {ds : List D} (h : δ[i]? = some (.d (FR.tupN ds))) : ∃ l o xs, σ[i]? = some (some (.ref l)) ∧ Hf l = some (.frz o (.tup xs)) ∧ o.dict = none ∧ DvA K Hf xs ds := by
  obtain ⟨o, e1, v, rfl, hv⟩ := S.get h
  obtain ⟨l, ob, xs, rfl, h1, _, h2, h3⟩ := VS.tpn_ S.sub (.f hv : VS K Hf H v _)
  exact ⟨l, ob, xs, e1, h1, h2, h3⟩
theorem de_tvar (hN : X.N[i]? = some x) (hv : Vis X.env.scope x) (hd : (x == ("__debug__" : Str)) = false) (hc : (x == ("__classdict__" : Str)) = false) : PE X (.Name x pos) (LE X.K ct W false (fun er => rd G false er (.tvar i))) :=
  (pe_var hN hv hd hc).weak fun σ H Q ⟨Rf, RH, Hf, δ, k, er, S, qe, h, q⟩ => by
    dsimp only at h
    unfold rd at h
    obtain ⟨ds, h, hk⟩ := h
    obtain ⟨l, o, xs, e1, e2, e3, e4⟩ := S.tupN h
    exact ⟨_, e1, q _ hk _ Hf H (.refl S.sub) (dv_of_tpn e2 e4)⟩
theorem de_tix (hN : X.N[i]? = some x) (hv : Vis X.env.scope x) (hd : (x == ("__debug__" : Str)) = false) (hc : (x == ("__classdict__" : Str)) = false) (hb : PE X b (LE X.K ct W true (fun er => rd G true er cb))) (hs : starEach [b] X.env = [(false, eval b X.env)]) (hline : (apos.endLine == pos.line) = true) :
    PE X (.Call (.Attribute (.Name x p) "index" apos) [b] [] pos) (LE X.K ct W false (fun er => rd G false er (.tix i cb))) :=
  (pe_tix (pe_var hN hv hd hc) (pa_cons hb pa_nil (by rw [hs]; rfl)) rfl hs hline).weak fun σ H Q ⟨Rf, RH, Hf, δ, k, er, S, qe, h, q⟩ => by
    dsimp only at h
    unfold rd at h
    obtain ⟨ds, h, hk⟩ := h
    obtain ⟨l, o, xs, e1, e2, e3, e4⟩ := S.tupN h
    refine ⟨_, e1, l, o, xs, rfl, S.sub _ _ e2, e3, Rf, RH, Hf, δ, _, er, S, qe, hk, fun d2 hd2 v2 Jf L e5 hv2 => ?_⟩
    obtain ⟨f, fs, j, hj, hk⟩ := hd2
    have t2 := (e4.mono e5.fz).mono e5.sub
    obtain ⟨z, z1, z2, z3⟩ := lix_at t2 (hv2.all e5.sub) f fs hj
    exact ⟨l, xs, v2, j, z, rfl, rfl, .inl (.inr ⟨o, e5.ex _ _ (S.sub _ _ e2)⟩), flat_v (hv2.all e5.sub) f, flat_all t2 fs, z1, z2, z3, q _ hk _ Jf L e5 (.int _)⟩
theorem de_tupN {q : Pos} (hg : Gl X "tuple") (hm : X.mg "tuple" = none) (ha : PE X a (LE X.K ct W true (fun er => rd G true er ca))) (hs : starEach [a] X.env = [(false, eval a X.env)]) :
    PE X (.Call (.Name "tuple" q) [a] [] pos) (LE X.K ct W false (fun er => rd G false er (.tupN ca))) :=
  (pe_callTy call_tupN hg hm (by decide +kernel) (pa_cons ha pa_nil (by rw [hs]; rfl)) (by decide) (by decide) (by rw [hs]; rfl) rfl).weak fun σ H Q ⟨Rf, RH, Hf, δ, k, er, S, qe, r, q⟩ => by
    dsimp only at r
    unfold rd at r
    refine ⟨Rf, RH, Hf, δ, _, er, S, qe, r, fun d hd v Gf J e hv => ?_⟩
    obtain ⟨xs, rfl, hk⟩ := hd
    obtain ⟨l, vs, rfl, hl, t⟩ := VS.lst_ e.sub hv
    exact ⟨l, vs, rfl, .inl (.of hl), fun p o ho hp => q _ hk _ _ _ (e.trans (.new e.sub hp)) (.tpn upd_same ho (t.mono (.new (e.sub.free hp))))⟩

/-! ### own lists lent -/
/-- an own list is frozen as it stands -/
theorem SD.frzL {K : PySem.W.Frag} {Rf RH Hf H : Hp} {σ : L2.St} {δ : List Sl} (S : SD K Rf RH Hf H σ δ) {i : Nat} {xs : List D} (h1 : δ[i]? = some (.l xs)) :
    ∃ l vs, Hf l = none ∧ RH l = none ∧ H l = some (.lst vs) ∧ SD K Rf RH (upd Hf l (.lst vs)) H σ (δ.set i (.d (.list xs))) := by
  obtain ⟨l, vs, e1, e2, e3, e4, e5⟩ := S.list h1
  have ex : Ext Rf RH (upd Hf l (.lst vs)) H := ⟨S.ext.ex, S.ext.fz.trans (.new e3), fun a u z => by
    by_cases n : a = l
    · subst n; rw [upd_same] at z; cases z; exact e4
    · rw [upd_ne n] at z; exact S.ext.sub a u z, fun a n => by
    rw [upd_ne (fun z => n (by rw [z]; exact e2))]; exact S.ext.old a n⟩
  have ex2 : Ex Hf (upd Hf l (.lst vs)) := .new e3
  refine ⟨l, vs, e3, e2, e4, ex, by rw [List.length_set, S.len], fun j s o h1' h2' => ?_, fun j k s t p h1' h2' o1 o2 q1 q2 => ?_⟩
  · by_cases e : i = j
    · subst e
      have hi : i < δ.length := by have := (List.getElem?_eq_some_iff.mp h1').1; rw [List.length_set] at this; exact this
      rw [List.getElem?_set_self hi] at h1'
      cases h1'
      rw [e1] at h2'
      cases h2'
      exact ⟨_, rfl, .lst upd_same (e5.mono ex2)⟩
    · rw [List.getElem?_set_ne e] at h1'
      have z := S.at_ j s o h1' h2'
      have ne : ∀ p, o = some (.ref p) → isOwn s = true → p ≠ l := fun p hp ho hpl => e (S.sep i j _ _ l h1 h1' rfl ho e1 (by rw [h2', hp, hpl]))
      cases s with
      | no => trivial
      | d x => obtain ⟨v, z1, z2⟩ := z; exact ⟨v, z1, z2.mono ex2⟩
      | l ds => obtain ⟨p, z1, z2, z3, zs, z4, z5⟩ := z; exact ⟨p, z1, z2, by rw [upd_ne (ne p z1 rfl)]; exact z3, zs, z4, z5.mono ex2⟩
      | m ds => obtain ⟨p, z1, z2, z3, zs, z4, z5⟩ := z; exact ⟨p, z1, z2, by rw [upd_ne (ne p z1 rfl)]; exact z3, zs, z4, KvA.mono ex2 z5⟩
  · have nj : ∀ {j : Nat} {s : Sl}, (δ.set i (.d (.list xs)))[j]? = some s → isOwn s = true → i ≠ j := fun {j s} h o e => by
      subst e
      have hi : i < δ.length := by have := (List.getElem?_eq_some_iff.mp h).1; rw [List.length_set] at this; exact this
      rw [List.getElem?_set_self hi] at h; cases h; cases o
    have a := nj h1' o1
    have b := nj h2' o2
    rw [List.getElem?_set_ne a] at h1'
    rw [List.getElem?_set_ne b] at h2'
    exact S.sep j k s t p h1' h2' o1 o2 q1 q2
theorem SD.frzS {K : PySem.W.Frag} {Rf RH H : Hp} {σ : L2.St} : ∀ {is : List Nat} {Hf : Hp} {δ δ' : List Sl}, SD K Rf RH Hf H σ δ → FR.frzS δ is = some δ' → ∃ Hf', SD K Rf RH Hf' H σ δ'
  | [], Hf, δ, δ', S, h => by
    simp only [FR.frzS, Option.some.injEq] at h
    subst h
    exact ⟨Hf, S⟩
  | i :: is, Hf, δ, δ', S, h => by
    unfold FR.frzS at h
    cases e : δ[i]? with
    | none => rw [e] at h; cases h
    | some s =>
      rw [e] at h
      cases s with
      | l xs =>
        obtain ⟨l, vs, _, _, _, S1⟩ := S.frzL e
        exact S1.frzS h
      | no => cases h
      | d _ => cases h
      | m _ => cases h
theorem dv_flat {K : PySem.W.Frag} {H H' : Hp} {v : V} {d : D} (h : Dv K H v d) (f : flatD d = true) : Dv K H' v d := by
  cases h with
  | non => exact .non
  | bl b => exact .bl b
  | int i => exact .int i
  | str x => exact .str x
  | _ => cases f
theorem dva_flat {K : PySem.W.Frag} {H H' : Hp} : ∀ {vs : List V} {ds : List D}, DvA K H vs ds → ds.all flatD = true → DvA K H' vs ds
  | _, _, .nil, _ => .nil
  | _, _, .cons h t, f => by
    rw [List.all_cons, Bool.and_eq_true] at f
    exact .cons (dv_flat h f.1) (dva_flat t f.2)
/-- all that is new is forgotten -/
theorem Ext.forget {Hf H Gf G Hf' : Hp} (sub : Ex Hf H) (e : Ext Hf' H Gf G) : Ext Hf H Hf G := ⟨e.ex, .refl _, sub.trans e.ex, fun _ _ => rfl⟩
theorem de_lend {is : List Nat} (ha : PE X a (LE X.K ct W false (fun er => rd G false er ca))) : PE X a (LE X.K ct W false (fun er => rd G false er (.lend is ca))) :=
  ha.weak fun σ H Q ⟨Rf, RH, Hf, δ, k, er, S, qe, r, q⟩ => by
    dsimp only at r
    unfold rd at r
    obtain ⟨δ', hf, r⟩ := r
    obtain ⟨Hf', S'⟩ := S.frzS hf
    exact ⟨Rf, RH, Hf', δ', _, er0, S', EC.none, r, fun d hd v Gf J e hv => q d hd.2 v Hf J (.forget S.sub e) (dv_flat hv hd.1)⟩
end
end FR

/-! FrHa: enumerate over a text and over a tuple -/
namespace FR
open PySem PySem.Spec PyProof.Rows L2
open Sem (wp)

def ItES (x : Str) : It := ⟨fun i _ => i < x.cps.size, fun i H v H' => ∃ T c, v = .ref T ∧ H T = none ∧ H' = upd H T (.tup [.int (i : Nat), .str ⟨#[c]⟩]) ∧ x.cps[i]? = some c, fun i _ => x.cps.size ≤ i⟩
def ItET (K : PySem.W.Frag) (a : Addr) (n : Nat) : It :=
  ⟨fun i H => i < n ∧ ∃ (xs : List V) (x : V), SqT K H a xs ∧ xs.length = n ∧ xs[i]? = some x, fun i H v H' => ∃ T x, v = .ref T ∧ H T = none ∧ H' = upd H T (.tup [.int (i : Nat), x]) ∧ ∀ xs, SqT K H a xs → xs[i]? = some x, fun i H => n ≤ i ∧ ∃ xs : List V, SqT K H a xs ∧ xs.length = n⟩
theorem two_of {e it b : Addr} (h : b ∈ [e, it]) : b = e ∨ b = it := by simpa using h
theorem turn_enumS {P : Program} {w : World} {K : PySem.W.Frag} {elts : List Expr} {kk : Nat} {tpos : Pos} (x : Str) (t : Tok) (e it : Addr) :
    Turn P w K (.Tuple elts kk tpos) (ItES x) [e, it] e (fun i h => (∃ old, IsEnum h e it ((i : Nat) : Int) old) ∧ h.IsStrIter it (strIterType x) x t i ∧ e ≠ it ∧ i ≤ x.cps.size) where
  mem := by simp
  obj := fun i h st b hb => by
    obtain ⟨⟨old, he⟩, ⟨o, ho, hc, hd⟩, _⟩ := st
    rcases two_of hb with z | z
    · rw [z]; exact ⟨_, he, fun v q => nomatch q⟩
    · rw [z]; exact ⟨o, ho, fun v q => by rw [hd] at q; cases q⟩
  keep := fun i h h' st k => let ⟨⟨old, he⟩, ⟨o, ho, r⟩, hne⟩ := st; ⟨⟨old, k e (by simp) _ he⟩, ⟨o, k it (by simp) o ho, r⟩, hne⟩
  item := by
    intro X hP hw hK hc i pins s σ H E I hf st hg
    subst hP hw hK
    obtain ⟨⟨old, he⟩, hit, hne, hi⟩ := st
    have hel : e < s.heap.objs.size := Heap.lt_size he
    have hil : it < s.heap.objs.size := by obtain ⟨_, q, _⟩ := hit; exact Heap.lt_size q
    refine wpAny_pyNext_enum_itemD (Draws.text (prog := X.prog) (w := X.w) (A := X.A.in1) (I.ok.hd hc) it x t) he hit hg hne (by simpa using hne) fun u h' tk hu ho hit' hT hsz hk => ?_
    obtain ⟨c, tc, hcx, rfl⟩ := hu
    refine ⟨_, rfl, wpAny_letOwnedTupleGo_enum (s := { s with heap := h', toks := tk + 1 }) ho fun h'' he' sb => ?_⟩
    have hT2 : h''.get? s.heap.objs.size = some { cls := .type "tuple", data := .seq #[.int i tk, .str ⟨#[c]⟩ tc] } := (sb.2 _ (Nat.ne_of_gt hel)).trans hT
    have new : ObjOk X.prog X.w (upd H s.heap.objs.size (.tup [.int (i : Nat), .str ⟨#[c]⟩])) h'' s.heap.objs.size (.tup [.int (i : Nat), .str ⟨#[c]⟩]) :=
      ⟨by show 2 ≤ sizeLine; decide, [.int i tk, .str ⟨#[c]⟩ tc], .cons ⟨_, rfl⟩ (.cons ⟨_, rfl⟩ .nil), ⟨_, hT2, rfl, _, rfl⟩⟩
    have I1 : Inv X pins σ (upd H s.heap.objs.size (.tup [.int (i : Nat), .str ⟨#[c]⟩])) { s with heap := h'', toks := tk + 1 } :=
      I.turnedNew (ch := [e, it]) (fun b ob hb q => (sb.2 b (fun z => hb (by simp [z]))).trans (hk b ob (fun z => hb (by simp [z])) (fun z => hb (by simp [z])) q)) hf (Nat.le_refl _) new
    refine ⟨.ref s.heap.objs.size, _, I1, rfl, ⟨_, c, rfl, I.hok.fresh (Nat.le_refl _), rfl, hcx⟩, ⟨⟨.str ⟨#[c]⟩ tc, ?_⟩, ?_, hne, hg⟩, fun b hb => ?_⟩
    · have e1 : ((i + 1 : Nat) : Int) = (i : Int) + 1 := by omega
      rw [e1]; exact he'
    · obtain ⟨o, q, r⟩ := hit'
      exact ⟨o, (sb.2 it (Ne.symm hne)).trans q, r⟩
    · have hb' : b < s.heap.objs.size := by
        rcases two_of hb with z | z
        · rw [z]; exact hel
        · rw [z]; exact hil
      rw [upd_ne (Nat.ne_of_lt hb')]
      exact (hf b hb).1
  done := by
    intro X hP hw hK hc i pins s σ H E I hf st hg
    subst hP hw hK
    obtain ⟨⟨old, he⟩, hit, hne, hi⟩ := st
    obtain ⟨f0, f1, f2, f3, f4, f5⟩ := hf it (by simp)
    have ei : i = x.cps.size := Nat.le_antisymm hi hg
    rw [ei] at hit
    exact wpAny_pyNext_enum_endD (Draws.text (prog := X.prog) (w := X.w) (A := X.A.in1) (I.ok.hd hc) it x t) he hit fun h' eb => ⟨rfl, I.turned (t' := s.toks) (fun b o hb q => eb b o hb q) f0 f1 f3 f4 f5⟩
  self := fun A i s Q E st h => let ⟨⟨_, he⟩, _⟩ := st; wpAny_pyIter_enum he h
theorem turn_enumT {P : Program} {w : World} {K : PySem.W.Frag} {elts : List Expr} {kk : Nat} {tpos : Pos} (a : Addr) (n : Nat) (e it : Addr) (hat : a ≠ it) (hae : e ≠ a) :
    Turn P w K (.Tuple elts kk tpos) (ItET K a n) [e, it] e (fun i h => (∃ old, IsEnum h e it ((i : Nat) : Int) old) ∧ h.IsTupleIter it a i ∧ e ≠ it ∧ i ≤ n) where
  mem := by simp
  obj := fun i h st b hb => by
    obtain ⟨⟨old, he⟩, ⟨o, ho, hc, hd⟩, _⟩ := st
    rcases two_of hb with z | z
    · rw [z]; exact ⟨_, he, fun v q => nomatch q⟩
    · rw [z]; exact ⟨o, ho, fun v q => by rw [hd] at q; cases q⟩
  keep := fun i h h' st k => let ⟨⟨old, he⟩, hi, hne⟩ := st; ⟨⟨old, k e (by simp) _ he⟩, hi.at fun o q => k it (by simp) o q, hne⟩
  item := by
    intro X hP hw hK hc i pins s σ H E I hf st hg
    subst hP hw hK
    obtain ⟨⟨old, he⟩, hit, hne, hi⟩ := st
    obtain ⟨hlt, xs, x, hq, hn, hx⟩ := hg
    obtain ⟨its, rv, p, hz⟩ := I.tuple hq
    obtain ⟨u, hu, ru⟩ := rv.get hx
    have hel : e < s.heap.objs.size := Heap.lt_size he
    have hil : it < s.heap.objs.size := by obtain ⟨_, q, _⟩ := hit; exact Heap.lt_size q
    have hl := rv.length
    have hsz0 : its.toArray.size = n := by simp; omega
    refine wpAny_pyNext_enum_itemD (Draws.tuple (prog := X.prog) (w := X.w) (A := X.A.in1) (I.ok.hd hc) it a hat its.toArray) he ⟨hit, p⟩ (by rw [hsz0]; exact hlt) hne (by simp [hne, hae]) fun y h' tk hy ho hit' hT hsz hk => ?_
    have eu : u = y := by
      have q1 : its.toArray[i]? = some u := by simpa using hu
      rw [q1] at hy
      exact Option.some.inj hy
    subst eu
    refine ⟨_, rfl, wpAny_letOwnedTupleGo_enum (s := { s with heap := h', toks := tk + 1 }) ho fun h'' he' sb => ?_⟩
    have hT2 : h''.get? s.heap.objs.size = some { cls := .type "tuple", data := .seq #[.int i tk, u] } := (sb.2 _ (Nat.ne_of_gt hel)).trans hT
    have new : ObjOk X.prog X.w (upd H s.heap.objs.size (.tup [.int (i : Nat), x])) h'' s.heap.objs.size (.tup [.int (i : Nat), x]) :=
      ⟨by show 2 ≤ sizeLine; decide, [.int i tk, u], .cons ⟨_, rfl⟩ (.cons ru .nil), ⟨_, hT2, rfl, _, rfl⟩⟩
    have I1 : Inv X pins σ (upd H s.heap.objs.size (.tup [.int (i : Nat), x])) { s with heap := h'', toks := tk + 1 } :=
      I.turnedNew (ch := [e, it]) (fun b ob hb q => (sb.2 b (fun z => hb (by simp [z]))).trans (hk b ob (fun z => hb (by simp [z])) (fun z => hb (by simp [z])) q)) hf (Nat.le_refl _) new
    refine ⟨.ref s.heap.objs.size, _, I1, rfl, ⟨_, x, rfl, I.hok.fresh (Nat.le_refl _), rfl, fun ys hy => by rw [I.tuple_inj hy hq]; exact hx⟩, ⟨⟨u, ?_⟩, hit'.1.at fun o q => (sb.2 it (Ne.symm hne)).trans q, hne, hlt⟩, fun b hb => ?_⟩
    · have e1 : ((i + 1 : Nat) : Int) = (i : Int) + 1 := by omega
      rw [e1]; exact he'
    · have hb' : b < s.heap.objs.size := by
        rcases two_of hb with z | z
        · rw [z]; exact hel
        · rw [z]; exact hil
      rw [upd_ne (Nat.ne_of_lt hb')]
      exact (hf b hb).1
  done := by
    intro X hP hw hK hc i pins s σ H E I hf st hg
    subst hP hw hK
    obtain ⟨⟨old, he⟩, hit, hne, hi⟩ := st
    obtain ⟨hge, xs, hq, hn⟩ := hg
    obtain ⟨its, rv, p, hz⟩ := I.tuple hq
    obtain ⟨f0, f1, f2, f3, f4, f5⟩ := hf it (by simp)
    have hl := rv.length
    have hsz0 : its.toArray.size = i := by simp; omega
    rw [← hsz0] at hit
    exact wpAny_pyNext_enum_endD (Draws.tuple (prog := X.prog) (w := X.w) (A := X.A.in1) (I.ok.hd hc) it a hat its.toArray) he ⟨hit, p⟩ fun h' eb => ⟨rfl, I.turned (t' := s.toks) (fun b o hb q => eb b o hb q) f0 f1 f3 f4 f5⟩
  self := fun A i s Q E st h => let ⟨⟨_, he⟩, _⟩ := st; wpAny_pyIter_enum he h
section
variable {prog : Program} {w : World} {A : Around} {E : Value → Shared → Prop} {s : Shared}
set_option maxHeartbeats 4000000 in
theorem meets_enumerate_newT (l : Addr) (items : Array Value) :
    Meets (Builtin.«enumerate.__new__» ⟨[.type "enumerate", .ref l], []⟩) (fun _ R s => s.heap.IsTuple l items ∧
      R (.ok (.ret (.ref (s.heap.push { cls := .type "tuple_iterator", data := .fields #[.ref l, .int 0 0] }).objs.size))) { s with heap := (s.heap.push { cls := .type "tuple_iterator", data := .fields #[.ref l, .int 0 0] }).push { cls := .type "enumerate", data := .fields #[.none, .bool false, .ref s.heap.objs.size, rawInt 0, .none, .none] } }) :=
  .of_wp fun prog w A R s h => by
    obtain ⟨hp, g, d, tk, os⟩ := s; obtain ⟨h1, h⟩ := h
    have hsub := sub_enumerate
    have q1 : ∀ {A' : Around} {E : Value → Shared → Prop} {Q : Value → Shared → Prop}, Q (.ref hp.objs.size) ⟨hp.push { cls := .type "tuple_iterator", data := .fields #[.ref l, .int 0 0] }, g, d, tk, os⟩ → wpAny (model prog w) A' (pyIter (.ref l)) Q E ⟨hp, g, d, tk, os⟩ :=
      fun q => (begins_tuple l items).iter prog w _ _ ⟨hp, g, d, tk, os⟩ _ h1 q
    wp_walk using q1
    refine wpAny_stack_any fun st => wpAny_pure ?_
    split
    · rename_i c _ _ _ _ _
      cases (c == Value.type "enumerate")
      · wp_walk using q1
        exact ⟨_, rfl, h⟩
      · wp_walk using q1
        exact ⟨_, rfl, h⟩
    · wp_walk using q1
      exact ⟨_, rfl, h⟩
theorem call_enumerate_tup {l : Addr} {items : Array Value} {Q : Value → Shared → Prop} (hL : s.heap.IsTuple l items)
    (h : ∀ h', IsEnum h' (s.heap.objs.size + 1) s.heap.objs.size 0 .none → h'.IsTupleIter s.heap.objs.size l 0 → h'.objs.size = s.heap.objs.size + 2 →
      (∀ b o, s.heap.get? b = some o → h'.get? b = some o) → Q (.ref (s.heap.objs.size + 1)) { s with heap := h' }) :
    wpAny (model prog w) A (call (.type "enumerate") [.ref l]) Q E s := by
  refine callType_new F.called_enumerate (by decide) (F.typeCall_enumerate_1 _) (F.newCall_enumerate_1 _) (fun obj => F.args_object_init_2 obj _) F.entry_enumerate_new
    (meets_enumerate_newT l items) ⟨hL, ?_⟩
  have hz : (s.heap.push { cls := .type "tuple_iterator", data := .fields #[.ref l, .int 0 0] }).objs.size = s.heap.objs.size + 1 := Heap.size_push ..
  show _ ∧ _
  rw [hz]
  have he : IsEnum ((s.heap.push { cls := .type "tuple_iterator", data := .fields #[.ref l, .int 0 0] }).push
      { cls := .type "enumerate", data := .fields #[.none, .bool false, .ref s.heap.objs.size, rawInt 0, .none, .none] }) (s.heap.objs.size + 1) s.heap.objs.size 0 .none := by
    have := Heap.get?_push_size (s.heap.push { cls := .type "tuple_iterator", data := .fields #[.ref l, .int 0 0] })
      (o := { cls := .type "enumerate", data := .fields #[.none, .bool false, .ref s.heap.objs.size, rawInt 0, .none, .none] }) rfl
    rw [hz] at this; exact this
  refine ⟨⟨_, he, rfl⟩, h _ he ⟨_, Heap.get?_push_of_some _ (Heap.get?_push_size _ rfl), rfl, rfl⟩ (by rw [Heap.size_push, hz]) fun b o x => Heap.get?_push_of_some _ (Heap.get?_push_of_some _ x)⟩
end
/-- enumerate over what is a list, a tuple or a text -/
def iEnumA (K : PySem.W.Frag) (ta : TA) : TI := fun σ H R => ta σ H fun vs H1 =>
  (∃ a xs, vs = [.ref a] ∧ SqL K H1 a xs ∧ R (Ite K a) H1) ∨ (∃ a xs, vs = [.ref a] ∧ SqT K H1 a xs ∧ R (ItET K a xs.length) H1) ∨ ∃ x, vs = [.str x] ∧ R (ItES x) H1
theorem pi_enumA {X : Cx} {e : Expr} {ta : TA} {p pos tpos : Pos} {elts : List Expr} {kk : Nat} (hg : Gl X "enumerate") (hm : X.mg "enumerate" = none) (ha : PA X [e] ta) (hs : starEach [e] X.env = [(false, eval e X.env)] := by rfl) :
    PI X (.Tuple elts kk tpos) (.Call (.Name "enumerate" p) [e] [] pos) (iEnumA X.K ta) := by
  refine ⟨fun pins s σ H R I h => ?_⟩
  refine PyProof.Rows.Call_ (ld_blt I hg hm boot_enumerate (PyProof.Rows.callWith_type1 (thn (ha.run pos pins s σ H _ I h) fun us s1 ⟨vs, H1, I1, r1, q1⟩ => ?_) hs rfl))
  have fp : ∀ b ∈ [s1.heap.objs.size + 1, s1.heap.objs.size], s1.heap.objs.size ≤ b := fun b hb => by
    rcases two_of hb with z | z
    · rw [z]; exact Nat.le_add_right _ _
    · rw [z]; exact Nat.le_refl _
  rcases q1 with ⟨a, xs, ex, hq, q⟩ | ⟨a, xs, ex, hq, q⟩ | ⟨x, ex, q⟩
  · subst ex
    cases r1 with
    | cons r rr =>
      cases rr
      cases r
      obtain ⟨its, rv, p', hz⟩ := I1.list hq
      refine call_enumerate_list p'.isList fun h' he hit hsz hk => wpAny_pyIter_enum he ?_
      have I2 : Inv X pins σ H1 { s1 with heap := h' } := I1.kept (t' := s1.toks) hk
      exact ⟨s1.heap.objs.size + 1, [s1.heap.objs.size + 1, s1.heap.objs.size], _, _, H1, rfl, I2, turn_enum a (s1.heap.objs.size + 1) s1.heap.objs.size, ⟨⟨.none, he⟩, hit, Nat.succ_ne_self _⟩, fun b hb => I1.fpOk (fp b hb) (I1.hok.fresh (fp b hb)), q⟩
  · subst ex
    cases r1 with
    | cons r rr =>
      cases rr
      cases r
      obtain ⟨its, rv, p', hz⟩ := I1.tuple hq
      have hal : a < s1.heap.objs.size := by obtain ⟨o, q, _⟩ := id p'; exact Heap.lt_size q
      refine call_enumerate_tup (show s1.heap.IsTuple a its.toArray from p') fun h' he hit hsz hk => wpAny_pyIter_enum he ?_
      have I2 : Inv X pins σ H1 { s1 with heap := h' } := I1.kept (t' := s1.toks) hk
      exact ⟨s1.heap.objs.size + 1, [s1.heap.objs.size + 1, s1.heap.objs.size], _, _, H1, rfl, I2, turn_enumT a xs.length (s1.heap.objs.size + 1) s1.heap.objs.size (Nat.ne_of_lt hal) (Nat.ne_of_gt (Nat.lt_succ_of_lt hal)), ⟨⟨.none, he⟩, hit, Nat.succ_ne_self _, Nat.zero_le _⟩, fun b hb => I1.fpOk (fp b hb) (I1.hok.fresh (fp b hb)), q⟩
  · subst ex
    cases r1 with
    | cons r rr =>
      cases rr
      obtain ⟨t, rfl⟩ := r
      refine call_enumerate_str fun h' he hit hsz hk => wpAny_pyIter_enum he ?_
      have I2 : Inv X pins σ H1 { s1 with heap := h' } := I1.kept (t' := s1.toks) hk
      exact ⟨s1.heap.objs.size + 1, [s1.heap.objs.size + 1, s1.heap.objs.size], _, _, H1, rfl, I2, turn_enumS x t (s1.heap.objs.size + 1) s1.heap.objs.size, ⟨⟨.none, he⟩, hit, Nat.succ_ne_self _, Nat.zero_le _⟩, fun b hb => I1.fpOk (fp b hb) (I1.hok.fresh (fp b hb)), q⟩
end FR

/-! FrH: targets, what is walked, comprehensions -/
namespace FR
open PySem L2

/-! ### targets -/
def CT.ixs : CT → List Nat
  | .v i => [i]
  | .t is => is
def Dif (is : List Nat) (σ σ' : L2.St) : Prop := σ'.length = σ.length ∧ ∀ j, j ∉ is → σ'[j]? = σ[j]?
theorem Dif.refl {is : List Nat} {σ : L2.St} : Dif is σ σ := ⟨rfl, fun _ _ => rfl⟩
theorem Dif.set {is : List Nat} {σ : L2.St} {i : Nat} {o : Option V} (h : i ∈ is) : Dif is σ (σ.set i o) := ⟨List.length_set, fun j hj => List.getElem?_set_ne fun e => by subst e; exact hj h⟩
theorem Dif.trans {is : List Nat} {a b c : L2.St} (h : Dif is a b) (k : Dif is b c) : Dif is a c := ⟨k.1.trans h.1, fun j hj => (k.2 j hj).trans (h.2 j hj)⟩
theorem Dif.sub {is js : List Nat} {a b : L2.St} (h : Dif is a b) (s : ∀ i ∈ is, i ∈ js) : Dif js a b := ⟨h.1, fun j hj => h.2 j fun q => hj (s j q)⟩
def LG (K : PySem.W.Frag) (tg : CT) : TG := fun v σ H Q => ∃ (Rf RH Hf : Hp) (δ : List Sl) (d : D) (k : List Sl → Prop), SD K Rf RH Hf H σ δ ∧ Dv K Hf v d ∧ tgt tg d δ k ∧ ∀ δ', k δ' → ∀ σ', SD K Rf RH Hf H σ' δ' → Dif tg.ixs σ σ' → Q σ' H
def LGs (K : PySem.W.Frag) (is : List Nat) : TGs := fun vs σ H Q => ∃ (Rf RH Hf : Hp) (δ : List Sl) (ds : List D) (δ' : List Sl), SD K Rf RH Hf H σ δ ∧ DvA K Hf vs ds ∧ setAll δ is ds = some δ' ∧ ∀ σ', SD K Rf RH Hf H σ' δ' → Dif is σ σ' → Q σ' H
theorem _root_.L2.PG.weak {X : Cx} {e : Expr} {t t' : TG} (h : PG X e t) (w : ∀ v σ H Q, t' v σ H Q → t v σ H Q) : PG X e t' := ⟨fun pins s σ H v u Q I r q => h.run pins s σ H v u Q I r (w v σ H Q q)⟩
theorem _root_.L2.PGs.weak {X : Cx} {e : List Expr} {t t' : TGs} (h : PGs X e t) (w : ∀ v σ H Q, t' v σ H Q → t v σ H Q) : PGs X e t' := ⟨fun pins s σ H v u Q I r q => h.run pins s σ H v u Q I r (w v σ H Q q)⟩
section
variable {X : Cx} {G : Ctx} {ct : ErT} {W : WX} {a b c e tg : Expr} {ca cb cc ce : CE} {pos apos : Pos} {i : Nat} {x : Str}
theorem dg_v (hN : X.N.Nodup) (hi : X.N[i]? = some x) (hx : Loc X.env.scope x) (hf : X.fn x = true ∨ X.env.scope.names.lookup x = some .local) : PG X (.Name x pos) (LG X.K (.v i)) :=
  (pg_name hN hi hx hf).weak fun v σ H Q ⟨Rf, RH, Hf, δ, d, k, S, hv, r, q⟩ => by
    unfold tgt at r
    exact q _ r _ (S.setD hv) (.set (by simp [CT.ixs]))
theorem dgs_nil : PGs X [] (LGs X.K []) := pgs_nil.weak fun vs σ H Q ⟨Rf, RH, Hf, δ, ds, δ', S, hv, r, q⟩ => by
  cases hv with
  | nil => simp only [setAll, Option.some.injEq] at r; subst r; exact ⟨rfl, q _ S .refl⟩
  | cons _ _ => simp [setAll] at r
theorem dgs_cons {es : List Expr} {is : List Nat} (hN : X.N.Nodup) (hi : X.N[i]? = some x) (hx : Loc X.env.scope x) (hf : X.fn x = true ∨ X.env.scope.names.lookup x = some .local) (hr : PGs X es (LGs X.K is)) : PGs X (.Name x pos :: es) (LGs X.K (i :: is)) :=
  (pgs_cons (pg_name hN hi hx hf) hr).weak fun vs σ H Q ⟨Rf, RH, Hf, δ, ds, δ', S, hv, r, q⟩ => by
    cases hv with
    | nil => simp [setAll] at r
    | cons h t =>
      rw [setAll] at r
      exact ⟨_, _, rfl, Rf, RH, Hf, _, _, _, S.setD h, t, r, fun σ' S' dd => q _ S' ((Dif.set (by simp)).trans (dd.sub fun j hj => List.mem_cons_of_mem _ hj))⟩
theorem setAll_len {δ δ' : List Sl} {is : List Nat} {ds : List D} (h : setAll δ is ds = some δ') : is.length = ds.length := by
  induction is generalizing δ ds with
  | nil => cases ds with
    | nil => rfl
    | cons _ _ => simp [setAll] at h
  | cons i is ih => cases ds with
    | nil => simp [setAll] at h
    | cons d ds => rw [setAll] at h; rw [List.length_cons, List.length_cons, ih h]
theorem dg_t {es : List Expr} {k : Nat} {is : List Nat} (hc : X.calm = true) (h : PGs X es (LGs X.K is)) (hn : (assignEach es X.env).length = is.length) (hst : (assignEach es X.env).findIdx? (·.1) = none) : PG X (.Tuple es k pos) (LG X.K (.t is)) :=
  (pg_tup hc h hn hst).weak fun v σ H Q ⟨Rf, RH, Hf, δ, d, k, S, hv, r, q⟩ => by
    cases hv with
    | tup hs t =>
      unfold tgt at r
      obtain ⟨δ', r, hk⟩ := r
      exact ⟨_, _, rfl, S.sub.st hs, by rw [t.length, setAll_len r], Rf, RH, Hf, δ, _, δ', S, t, r, fun σ' S' dd => q _ hk σ' S' dd⟩
    | _ => simp [tgt] at r

/-! ### what is walked -/
/-- the pairs behind (Hf, H) at which a walk goes on -/
def RG (sh : Bool) (Hf H Gf G : Hp) : Prop := match sh with
  | true => Ext Hf H Gf G
  | false => Ex Hf Gf ∧ Ex Gf G
def ItB (sh : Bool) (K : PySem.W.Frag) (Hf H : Hp) (J : It) (items : List D) : Prop := ∀ Gf G, RG sh Hf H Gf G →
  (∀ i d, items[i]? = some d → J.go i G ∧ ∀ x G', J.yld i G x G' → ∃ Gf', Ext Gf G Gf' G' ∧ Dv K Gf' x d) ∧ ∀ i, items.length ≤ i → J.stop i G
def LI (K : PySem.W.Frag) (ct : ErT) (W : WX) (sh : Bool) (r : Er → List Sl → (List D → Prop) → Prop) : TI := fun σ H R => ∃ (Rf RH Hf : Hp) (δ : List Sl) (k : List D → Prop) (er : Er), SD K Rf RH Hf H σ δ ∧ EC K ct W σ Hf H er ∧ r er δ k ∧
  ∀ items, k items → ∀ J Gf G, Ext Hf H Gf G → ItB sh K Gf G J items → R J G
theorem _root_.L2.PI.weak {X : Cx} {tg e : Expr} {t t' : TI} (h : PI X tg e t) (w : ∀ σ H Q, t' σ H Q → t σ H Q) : PI X tg e t' := ⟨fun pins s σ H Q I q => h.run pins s σ H Q I (w σ H Q q)⟩
theorem RG.sub {sh : Bool} {Hf H Gf G : Hp} (h : RG sh Hf H Gf G) : Ex Gf G := by
  cases sh
  · exact h.2
  · exact (show Ext Hf H Gf G from h).sub
theorem RG.fz {sh : Bool} {Hf H Gf G : Hp} (h : RG sh Hf H Gf G) : Ex Hf Gf := by
  cases sh
  · exact h.1
  · exact (show Ext Hf H Gf G from h).fz
/-- a list to walk stays -/
theorem VB.lst {sh : Bool} {K : PySem.W.Frag} {Hf H Gf G : Hp} {v : V} {ds : List D} (e : Ex Hf H) (h : VB sh K Hf H v (.list ds)) : ∃ l xs, v = .ref l ∧ H l = some (.lst xs) ∧ DvA K Hf xs ds ∧ ∀ Gf G, RG sh Hf H Gf G → SqL K G l xs ∧ DvA K Gf xs ds := by
  cases sh with
  | false => cases h with
    | lst h t => exact ⟨_, _, rfl, e _ _ h, t, fun Gf G r => ⟨.inl (.of (r.2 _ _ (r.1 _ _ h))), t.mono r.1⟩⟩
  | true =>
    obtain ⟨l, xs, rfl, h, t⟩ := VS.lst_ e h
    exact ⟨_, _, rfl, h, t, fun Gf G r => ⟨.inl (.of ((show Ext _ _ _ _ from r).ex _ _ h)), t.mono (show Ext _ _ _ _ from r).fz⟩⟩
theorem VB.tup {sh : Bool} {K : PySem.W.Frag} {Hf H Gf G : Hp} {v : V} {ds : List D} (e : Ex Hf H) (h : VB sh K Hf H v (.tuple ds)) : ∃ l xs, v = .ref l ∧ SqT K H l xs ∧ DvA K Hf xs ds ∧ ∀ Gf G, RG sh Hf H Gf G → SqT K G l xs ∧ DvA K Gf xs ds := by
  obtain ⟨l, xs, rfl, h, t⟩ : ∃ l xs, v = .ref l ∧ SqT K Hf l xs ∧ DvA K Hf xs ds := by
    cases sh with
    | false => cases h with
      | tup h t => exact ⟨_, _, rfl, h, t⟩
    | true => cases h with
      | f h => cases h with
        | tup h t => exact ⟨_, _, rfl, h, t⟩
  exact ⟨l, xs, rfl, e.st h, t, fun Gf G r => ⟨r.sub.st (r.fz.st h), t.mono r.fz⟩⟩
theorem itl_ok {sh : Bool} {K : PySem.W.Frag} {Hf H : Hp} {l : Addr} {xs : List V} {ds : List D} (h : ∀ Gf G, RG sh Hf H Gf G → SqL K G l xs ∧ DvA K Gf xs ds) : ItB sh K Hf H (Itl K l) ds := fun Gf G r => by
  obtain ⟨h1, h2⟩ := h Gf G r
  refine ⟨fun i d e => ?_, fun i hi => ⟨xs, h1, by rw [h2.length]; exact hi⟩⟩
  obtain ⟨v, e1, e2⟩ := h2.get e
  refine ⟨⟨xs, v, h1, e1⟩, fun x G' ⟨eG, hy⟩ => ?_⟩
  subst eG
  have := hy xs h1
  rw [e1] at this
  cases this
  exact ⟨Gf, .refl r.sub, e2⟩
theorem itt_ok {sh : Bool} {K : PySem.W.Frag} {Hf H : Hp} {l : Addr} {xs : List V} {ds : List D} (h : ∀ Gf G, RG sh Hf H Gf G → SqT K G l xs ∧ DvA K Gf xs ds) : ItB sh K Hf H (Itt K l) ds := fun Gf G r => by
  obtain ⟨h1, h2⟩ := h Gf G r
  refine ⟨fun i d e => ?_, fun i hi => ⟨xs, h1, by rw [h2.length]; exact hi⟩⟩
  obtain ⟨v, e1, e2⟩ := h2.get e
  refine ⟨⟨xs, v, h1, e1⟩, fun x G' ⟨eG, hy⟩ => ?_⟩
  subst eG
  have := hy xs h1
  rw [e1] at this
  cases this
  exact ⟨Gf, .refl r.sub, e2⟩
theorem its_ok {sh : Bool} {K : PySem.W.Frag} {Hf H : Hp} {x : Str} : ItB sh K Hf H (Its x) (x.cps.toList.map fun c => .str ⟨#[c]⟩) := fun Gf G r => by
  refine ⟨fun i d e => ?_, fun i hi => by simpa [Its] using hi⟩
  rw [List.getElem?_map] at e
  cases h : x.cps.toList[i]? with
  | none => rw [h] at e; cases e
  | some c =>
    rw [h] at e
    cases e
    have hc : x.cps[i]? = some c := by simpa using h
    have hi : i < x.cps.size := by
      rw [Array.getElem?_eq_some_iff] at hc
      exact hc.1
    refine ⟨hi, fun y G' ⟨eG, c', hc', ey⟩ => ?_⟩
    subst eG
    rw [hc] at hc'
    cases hc'
    subst ey
    exact ⟨Gf, .refl r.sub, .str _⟩
theorem itr_ok {sh : Bool} {K : PySem.W.Frag} {Hf H : Hp} {lo : Int} {n : Nat} : ItB sh K Hf H (Itr lo n) ((List.range n).map fun (m : Nat) => .int (lo + (m : Int))) := fun Gf G r => by
  refine ⟨fun i d e => ?_, fun i hi => by simpa [Itr] using hi⟩
  rw [List.getElem?_map] at e
  cases h : (List.range n)[i]? with
  | none => rw [h] at e; cases e
  | some m =>
    rw [h] at e
    cases e
    obtain ⟨h1, h2⟩ := List.getElem?_eq_some_iff.mp h
    rw [List.getElem_range] at h2
    subst h2
    rw [List.length_range] at h1
    refine ⟨h1, fun y G' ⟨eG, ey⟩ => ?_⟩
    subst eG
    subst ey
    exact ⟨Gf, .refl r.sub, .int _⟩
theorem ite_ok {sh : Bool} {K : PySem.W.Frag} {Hf H : Hp} {l : Addr} {xs : List V} {ds : List D} (h : ∀ Gf G, RG sh Hf H Gf G → SqL K G l xs ∧ DvA K Gf xs ds) : ItB sh K Hf H (Ite K l) (enumL 0 ds) := fun Gf G r => by
  obtain ⟨h1, h2⟩ := h Gf G r
  have el : ∀ (ds : List D) (k : Nat), (enumL k ds).length = ds.length := by
    intro ds
    induction ds with
    | nil => intro k; rfl
    | cons d ds ih => intro k; rw [enumL, List.length_cons, List.length_cons, ih]
  have eg : ∀ (ds : List D) (k i : Nat) (d : D), (enumL k ds)[i]? = some d → ∃ y, ds[i]? = some y ∧ d = .tuple [.int ((k + i : Nat) : Int), y] := by
    intro ds
    induction ds with
    | nil => intro k i d e; simp [enumL] at e
    | cons d ds ih =>
      intro k i e he
      cases i with
      | zero => simp only [enumL, List.getElem?_cons_zero, Option.some.injEq] at he; subst he; exact ⟨d, rfl, rfl⟩
      | succ i =>
        rw [enumL, List.getElem?_cons_succ] at he
        obtain ⟨y, h1, h2⟩ := ih (k + 1) i e he
        refine ⟨y, by simpa using h1, ?_⟩
        rw [h2]
        have : k + 1 + i = k + (i + 1) := by omega
        rw [this]
  refine ⟨fun i d e => ?_, fun i hi => ⟨xs, h1, by rw [h2.length, ← el ds 0]; exact hi⟩⟩
  obtain ⟨y, e1, e2⟩ := eg ds 0 i d e
  obtain ⟨v, e3, e4⟩ := h2.get e1
  refine ⟨⟨xs, v, h1, e3⟩, fun x G' ⟨T, x', ex, hn, eG, hy⟩ => ?_⟩
  have := hy xs h1
  rw [e3] at this
  cases this
  subst ex eG e2
  rw [Nat.zero_add]
  exact ⟨upd Gf T (.tup [.int (i : Nat), v]), .new r.sub hn, dvNewT r.sub hn (.cons (.int _) (.cons e4 .nil))⟩
theorem zip_len : ∀ (ds es : List D), (zipL ds es).length = min ds.length es.length
  | [], _ => by simp [zipL]
  | _ :: _, [] => by simp [zipL]
  | _ :: ds, _ :: es => by rw [zipL, List.length_cons, List.length_cons, List.length_cons, zip_len ds es]; omega
theorem zip_get : ∀ (ds es : List D) (i : Nat) (d : D), (zipL ds es)[i]? = some d → ∃ y z, ds[i]? = some y ∧ es[i]? = some z ∧ d = .tuple [y, z]
  | [], _, _, _, e => by simp [zipL] at e
  | _ :: _, [], _, _, e => by simp [zipL] at e
  | y :: _, z :: _, 0, _, e => by simp only [zipL, List.getElem?_cons_zero, Option.some.injEq] at e; exact ⟨y, z, rfl, rfl, e.symm⟩
  | _ :: ds, _ :: es, i + 1, d, e => by
    rw [zipL, List.getElem?_cons_succ] at e
    obtain ⟨y, z, h1, h2, h3⟩ := zip_get ds es i d e
    exact ⟨y, z, by simpa using h1, by simpa using h2, h3⟩
theorem itz_ok {sh : Bool} {K : PySem.W.Frag} {Hf H : Hp} {l m : Addr} {xs ys : List V} {ds es : List D} (h : ∀ Gf G, RG sh Hf H Gf G → SqL K G l xs ∧ DvA K Gf xs ds) (h' : ∀ Gf G, RG sh Hf H Gf G → SqL K G m ys ∧ DvA K Gf ys es) :
    ItB sh K Hf H (Itz K l m) (zipL ds es) := fun Gf G r => by
  obtain ⟨h1, h2⟩ := h Gf G r
  obtain ⟨h3, h4⟩ := h' Gf G r
  refine ⟨fun i d e => ?_, fun i hi => ⟨xs, ys, h1, h3, by rw [zip_len] at hi; rw [h2.length, h4.length]; omega⟩⟩
  obtain ⟨y, z, e1, e2, e3⟩ := zip_get ds es i d e
  obtain ⟨v, e4, e5⟩ := h2.get e1
  obtain ⟨w, e6, e7⟩ := h4.get e2
  refine ⟨⟨xs, ys, v, w, h1, h3, e4, e6⟩, fun x G' ⟨T, x', y', ex, hn, eG, hx, hy⟩ => ?_⟩
  have t1 := hx xs h1
  have t2 := hy ys h3
  rw [e4] at t1
  rw [e6] at t2
  cases t1
  cases t2
  subst ex eG e3
  exact ⟨upd Gf T (.tup [v, w]), .new r.sub hn, dvNewT r.sub hn (.cons e5 (.cons e7 .nil))⟩
theorem itzT_ok {sh : Bool} {K : PySem.W.Frag} {Hf H : Hp} {l m : Addr} {xs ys : List V} {ds es : List D} (h : ∀ Gf G, RG sh Hf H Gf G → SqT K G l xs ∧ DvA K Gf xs ds) (h' : ∀ Gf G, RG sh Hf H Gf G → SqT K G m ys ∧ DvA K Gf ys es) :
    ItB sh K Hf H (RZ.ItzT K l m) (zipL ds es) := fun Gf G r => by
  obtain ⟨h1, h2⟩ := h Gf G r
  obtain ⟨h3, h4⟩ := h' Gf G r
  refine ⟨fun i d e => ?_, fun i hi => ⟨xs, ys, h1, h3, by rw [zip_len] at hi; rw [h2.length, h4.length]; omega⟩⟩
  obtain ⟨y, z, e1, e2, e3⟩ := zip_get ds es i d e
  obtain ⟨v, e4, e5⟩ := h2.get e1
  obtain ⟨w, e6, e7⟩ := h4.get e2
  refine ⟨⟨xs, ys, v, w, h1, h3, e4, e6⟩, fun x G' ⟨T, x', y', ex, hn, eG, hx, hy⟩ => ?_⟩
  have t1 := hx xs h1
  have t2 := hy ys h3
  rw [e4] at t1
  rw [e6] at t2
  cases t1
  cases t2
  subst ex eG e3
  exact ⟨upd Gf T (.tup [v, w]), .new r.sub hn, dvNewT r.sub hn (.cons e5 (.cons e7 .nil))⟩
/-- an expression whose value is walked: a list, a tuple, a text -/
theorem di_e {sh : Bool} (ha : PE X a (LE X.K ct W sh (fun er => rd G sh er ca))) : PI X tg a (LI X.K ct W sh (fun er => ri G sh er (.e ca))) := by
  refine ⟨fun pins s σ H R I ⟨Rf, RH, Hf, δ, k, er, S, qe, r, q⟩ => ?_⟩
  dsimp only at r
  unfold ri at r
  have h : LE X.K ct W sh (fun er => rd G sh er ca) σ H (fun v H1 => ∃ (Gf : Hp) (d : D), Ext Hf H Gf H1 ∧ VB sh X.K Gf H1 v d ∧ itemsC d k) := ⟨Rf, RH, Hf, δ, _, er, S, qe, r, fun d hd v Gf G e hv => ⟨Gf, d, e, hv, hd⟩⟩
  refine thn (ha.run pins s σ H _ I h) fun v s1 ⟨x, H1, I1, r1, Gf, d, e, hv, hd⟩ => ?_
  cases d with
  | list ds =>
    obtain ⟨l, xs, rfl, h1, h2, h3⟩ := VB.lst (Gf := Gf) (G := H1) e.sub hv
    cases r1
    obtain ⟨its, rv, p, hz⟩ := I1.list (.inl (.of h1))
    exact wpAny_pyIter_list p.isList (pi_one (tk := s1.toks) I1 _ (turn_list l _) ⟨_, Heap.get?_push_size _ rfl, rfl, rfl⟩ (q ds hd _ Gf H1 e (itl_ok h3)))
  | tuple ds =>
    obtain ⟨l, xs, rfl, h1, h2, h3⟩ := VB.tup (Gf := Gf) (G := H1) e.sub hv
    cases r1
    obtain ⟨its, rv, p, hz⟩ := I1.tuple h1
    exact wpAny_pyIter_tuple (show s1.heap.IsTuple l its.toArray from p) (pi_one (tk := s1.toks) I1 _ (turn_tuple l _) ⟨_, Heap.get?_push_size _ rfl, rfl, rfl⟩ (q ds hd _ Gf H1 e (itt_ok h3)))
  | str y =>
    rw [hv.s.str_] at r1
    obtain ⟨t, rfl⟩ := r1
    have Q1 := q _ hd _ Gf H1 e (its_ok (x := y))
    cases ha : y.cps.all (· < 128)
    · exact wpAny_pyIter_wide ha (pi_one (tk := s1.toks) I1 _ (turn_str _ y t "str_iterator" (.inr rfl)) ⟨_, Heap.get?_push_size _ rfl, rfl, rfl⟩ Q1)
    · exact wpAny_pyIter_ascii ha (pi_one (tk := s1.toks) I1 _ (turn_str _ y t "str_ascii_iterator" (.inl rfl)) ⟨_, Heap.get?_push_size _ rfl, rfl, rfl⟩ Q1)
  | none => exact hd.elim
  | bool b => exact hd.elim
  | int b => exact hd.elim
  | dict b => exact hd.elim
theorem itc_ok {sh : Bool} {K : PySem.W.Frag} {Hf H : Hp} {lo : Int} {n : Nat} : ItB sh K Hf H (Itc lo (-1) n) ((List.range n).map fun (m : Nat) => .int (lo - (m : Int))) := fun Gf G r => by
  refine ⟨fun i d e => ?_, fun i hi => by simpa [Itc] using hi⟩
  rw [List.getElem?_map] at e
  cases h : (List.range n)[i]? with
  | none => rw [h] at e; cases e
  | some m =>
    rw [h] at e
    cases e
    obtain ⟨h1, h2⟩ := List.getElem?_eq_some_iff.mp h
    rw [List.getElem_range] at h2
    subst h2
    rw [List.length_range] at h1
    refine ⟨h1, fun y G' ⟨eG, ey⟩ => ?_⟩
    subst eG
    subst ey
    have : lo + (i : Nat) * (-1 : Int) = lo - (i : Int) := by omega
    rw [this]
    exact ⟨Gf, .refl r.sub, .int _⟩
theorem di_rng1 {p : Pos} {sh : Bool} (hg : Gl X "range") (hm : X.mg "range" = none) (ha : PE X a (LE X.K ct W true (fun er => rd G true er ca))) (hs : starEach [a] X.env = [(false, eval a X.env)]) :
    PI X tg (.Call (.Name "range" p) [a] [] pos) (LI X.K ct W sh (fun er => ri G sh er (.rng1 ca))) :=
  (pi_range1 hg hm (pa_cons ha pa_nil hs) hs).weak fun σ H R ⟨Rf, RH, Hf, δ, k, er, S, qe, r, q⟩ => by
    dsimp only at r
    unfold ri at r
    refine ⟨Rf, RH, Hf, δ, _, er, S, qe, r, fun d hd v Gf J e hv => ?_⟩
    obtain ⟨j, rfl, hj, hk⟩ := hd
    refine ⟨j, by rw [hv.int_], hj.1, hj.2, q _ hk _ Gf J e ?_⟩
    have := itr_ok (sh := sh) (K := X.K) (Hf := Gf) (H := J) (lo := 0) (n := j.toNat)
    simpa using this
theorem di_rng2 {p : Pos} {sh : Bool} (hg : Gl X "range") (hm : X.mg "range" = none) (ha : PE X a (LE X.K ct W true (fun er => rd G true er ca))) (hb : PE X b (LE X.K ct W true (fun er => rd G true er cb))) (hs : starEach [a, b] X.env = [(false, eval a X.env), (false, eval b X.env)])
    (hs2 : starEach [b] X.env = [(false, eval b X.env)]) :
    PI X tg (.Call (.Name "range" p) [a, b] [] pos) (LI X.K ct W sh (fun er => ri G sh er (.rng2 ca cb))) :=
  (pi_range2 hg hm (pa_cons ha (pa_cons hb pa_nil hs2) (by rw [hs, hs2])) hs hs2).weak fun σ H R ⟨Rf, RH, Hf, δ, k, er, S, qe, r, q⟩ => by
    dsimp only at r
    unfold ri at r
    refine ⟨Rf, RH, Hf, δ, _, er, S, qe, r, fun d hd v Gf J e hv => ⟨Rf, RH, Gf, δ, _, er, S.mono e, qe.mono e, hd, fun d2 hd2 v2 Jf L e2 hv2 => ?_⟩⟩
    obtain ⟨i, j, ⟨rfl, rfl⟩, hj, hk⟩ := hd2
    exact ⟨i, j, by rw [hv.int_, hv2.int_], hj, q _ hk _ Jf L (e.trans e2) itr_ok⟩
theorem di_rngd {p : Pos} {sh : Bool} (hg : Gl X "range") (hm : X.mg "range" = none) {c : Expr} (hc : PE X c (tC (.int (-1)))) (ha : PE X a (LE X.K ct W true (fun er => rd G true er ca))) (hb : PE X b (LE X.K ct W true (fun er => rd G true er cb)))
    (hs : starEach [a, b, c] X.env = (false, eval a X.env) :: starEach [b, c] X.env) (hs2 : starEach [b, c] X.env = (false, eval b X.env) :: starEach [c] X.env) (hs3 : starEach [c] X.env = (false, eval c X.env) :: starEach [] X.env) :
    PI X tg (.Call (.Name "range" p) [a, b, c] [] pos) (LI X.K ct W sh (fun er => ri G sh er (.rngd ca cb))) :=
  (pi_range3 hg hm (pa_cons ha (pa_cons hb (pa_cons hc pa_nil hs3) hs2) hs) (by rw [hs, hs2, hs3]) (by rw [hs2, hs3]; rfl)).weak fun σ H R ⟨Rf, RH, Hf, δ, k, er, S, qe, r, q⟩ => by
    dsimp only at r
    unfold ri at r
    refine ⟨Rf, RH, Hf, δ, _, er, S, qe, r, fun d hd v Gf J e hv => ⟨Rf, RH, Gf, δ, _, er, S.mono e, qe.mono e, hd, fun d2 hd2 v2 Jf L e2 hv2 => ?_⟩⟩
    obtain ⟨i, j, ⟨rfl, rfl⟩, hj, hk⟩ := hd2
    exact ⟨i, j, -1, _, by rw [hv.int_, hv2.int_], .neg hj.1 hj.2.1 hj.2.2.1 hj.2.2.2, q _ hk _ Jf L (e.trans e2) itc_ok⟩
theorem enumL_len : ∀ (ds : List D) (k : Nat), (enumL k ds).length = ds.length
  | [], _ => rfl
  | d :: ds, k => by rw [enumL, List.length_cons, List.length_cons, enumL_len ds]
theorem enumL_get : ∀ (ds : List D) (k i : Nat) (d : D), (enumL k ds)[i]? = some d → ∃ y, ds[i]? = some y ∧ d = .tuple [.int ((k + i : Nat) : Int), y]
  | [], _, _, _, e => by simp [enumL] at e
  | y :: ys, k, 0, d, e => by simp only [enumL, List.getElem?_cons_zero, Option.some.injEq] at e; exact ⟨y, rfl, e.symm⟩
  | y :: ys, k, i + 1, d, e => by
    rw [enumL, List.getElem?_cons_succ] at e
    obtain ⟨z, h1, h2⟩ := enumL_get ys (k + 1) i d e
    refine ⟨z, by simpa using h1, ?_⟩
    rw [h2]
    have : k + 1 + i = k + (i + 1) := by omega
    rw [this]
theorem iteS_ok {sh : Bool} {K : PySem.W.Frag} {Hf H : Hp} {x : Str} : ItB sh K Hf H (ItES x) (enumL 0 (x.cps.toList.map fun c => .str ⟨#[c]⟩)) := fun Gf G r => by
  refine ⟨fun i d e => ?_, fun i hi => by rw [enumL_len, List.length_map] at hi; simpa [ItES] using hi⟩
  obtain ⟨y, e1, e2⟩ := enumL_get _ 0 i d e
  rw [List.getElem?_map] at e1
  cases h : x.cps.toList[i]? with
  | none => rw [h] at e1; cases e1
  | some c =>
    rw [h] at e1
    cases e1
    have hc : x.cps[i]? = some c := by simpa using h
    have hi : i < x.cps.size := by
      rw [Array.getElem?_eq_some_iff] at hc
      exact hc.1
    refine ⟨hi, fun v G' ⟨T, c', ex, hn, eG, hc'⟩ => ?_⟩
    rw [hc] at hc'
    cases hc'
    subst ex eG e2
    rw [Nat.zero_add]
    exact ⟨upd Gf T (.tup [.int (i : Nat), .str ⟨#[c]⟩]), .new r.sub hn, dvNewT r.sub hn (.cons (.int _) (.cons (.str _) .nil))⟩
theorem iteT_ok {sh : Bool} {K : PySem.W.Frag} {Hf H : Hp} {l : Addr} {xs : List V} {ds : List D} (h : ∀ Gf G, RG sh Hf H Gf G → SqT K G l xs ∧ DvA K Gf xs ds) : ItB sh K Hf H (ItET K l xs.length) (enumL 0 ds) := fun Gf G r => by
  obtain ⟨h1, h2⟩ := h Gf G r
  refine ⟨fun i d e => ?_, fun i hi => ⟨by rw [enumL_len] at hi; rw [h2.length]; exact hi, xs, h1, rfl⟩⟩
  obtain ⟨y, e1, e2⟩ := enumL_get ds 0 i d e
  obtain ⟨v, e3, e4⟩ := h2.get e1
  refine ⟨⟨(List.getElem?_eq_some_iff.mp e3).1, xs, v, h1, rfl, e3⟩, fun x G' ⟨T, x', ex, hn, eG, hy⟩ => ?_⟩
  have := hy xs h1
  rw [e3] at this
  cases this
  subst ex eG e2
  rw [Nat.zero_add]
  exact ⟨upd Gf T (.tup [.int (i : Nat), v]), .new r.sub hn, dvNewT r.sub hn (.cons (.int _) (.cons e4 .nil))⟩
theorem di_enum {p tpos : Pos} {elts : List Expr} {kk : Nat} {sh : Bool} (hg : Gl X "enumerate") (hm : X.mg "enumerate" = none) (ha : PE X a (LE X.K ct W sh (fun er => rd G sh er ca))) (hs : starEach [a] X.env = [(false, eval a X.env)]) :
    PI X (.Tuple elts kk tpos) (.Call (.Name "enumerate" p) [a] [] pos) (LI X.K ct W sh (fun er => ri G sh er (.enum ca))) :=
  (pi_enumA hg hm (pa_cons ha pa_nil hs) hs).weak fun σ H R ⟨Rf, RH, Hf, δ, k, er, S, qe, r, q⟩ => by
    dsimp only at r
    unfold ri at r
    refine ⟨Rf, RH, Hf, δ, _, er, S, qe, r, fun d hd v Gf J e hv => ?_⟩
    cases d with
    | list ds =>
      obtain ⟨l, xs, rfl, h1, h2, h3⟩ := VB.lst (Gf := Gf) (G := J) e.sub hv
      exact .inl ⟨l, xs, rfl, .inl (.of h1), q _ hd _ Gf J e (ite_ok h3)⟩
    | tuple ds =>
      obtain ⟨l, xs, rfl, h1, h2, h3⟩ := VB.tup (Gf := Gf) (G := J) e.sub hv
      exact .inr (.inl ⟨l, xs, rfl, h1, q _ hd _ Gf J e (iteT_ok h3)⟩)
    | str y => exact .inr (.inr ⟨y, by rw [hv.s.str_], q _ hd _ Gf J e iteS_ok⟩)
    | none => exact hd.elim
    | bool b => exact hd.elim
    | int b => exact hd.elim
    | dict b => exact hd.elim
theorem RG.pre {sh : Bool} {Hf H Gf G Jf J : Hp} (e : Ext Hf H Gf G) (h : RG sh Gf G Jf J) : RG sh Hf H Jf J := by
  cases sh
  · exact ⟨e.fz.trans h.1, h.2⟩
  · exact e.trans h
theorem di_zip {p tpos : Pos} {elts : List Expr} {kk : Nat} {sh : Bool} (hg : Gl X "zip") (hm : X.mg "zip" = none) (ha : PE X a (LE X.K ct W sh (fun er => rd G sh er ca))) (hb : PE X b (LE X.K ct W sh (fun er => rd G sh er cb)))
    (hs : starEach [a, b] X.env = (false, eval a X.env) :: starEach [b] X.env) (hs2 : starEach [b] X.env = (false, eval b X.env) :: starEach [] X.env) :
    PI X (.Tuple elts kk tpos) (.Call (.Name "zip" p) [a, b] [] pos) (LI X.K ct W sh (fun er => ri G sh er (.zip ca cb))) :=
  (RZ.pi_zipA hg hm (pa_cons ha (pa_cons hb pa_nil hs2) hs) hs (by rw [hs2]; rfl)).weak fun σ H R ⟨Rf, RH, Hf, δ, k, er, S, qe, r, q⟩ => by
    dsimp only at r
    unfold ri at r
    refine ⟨Rf, RH, Hf, δ, _, er, S, qe, r, fun d hd v Gf J e hv => ⟨Rf, RH, Gf, δ, _, er, S.mono e, qe.mono e, hd, fun d2 hd2 v2 Jf L e2 hv2 => ?_⟩⟩
    obtain ⟨ds, es, hc, hk⟩ := hd2
    rcases hc with ⟨rfl, rfl⟩ | ⟨rfl, rfl⟩
    · obtain ⟨l, xs, rfl, h1, h2, h3⟩ := VB.lst (Gf := Gf) (G := J) e.sub hv
      obtain ⟨m, ys, rfl, h4, h5, h6⟩ := VB.lst (Gf := Jf) (G := L) e2.sub hv2
      exact ⟨l, m, xs, ys, rfl, .inl ⟨.inl (.of (e2.ex _ _ h1)), .inl (.of h4), q _ hk _ Jf L (e.trans e2) (itz_ok (fun Gf G r => h3 _ _ (r.pre e2)) h6)⟩⟩
    · obtain ⟨l, xs, rfl, h1, h2, h3⟩ := VB.tup (Gf := Gf) (G := J) e.sub hv
      obtain ⟨m, ys, rfl, h4, h5, h6⟩ := VB.tup (Gf := Jf) (G := L) e2.sub hv2
      exact ⟨l, m, xs, ys, rfl, .inr ⟨e2.ex.st h1, h4, q _ hk _ Jf L (e.trans e2) (itzT_ok (fun Gf G r => h3 _ _ (r.pre e2)) h6)⟩⟩
end
end FR

/-! FrI: lists made anew, comprehensions -/
namespace FR
open PySem L2

def LN (K : PySem.W.Frag) (ct : ErT) (W : WX) (r : Er → List Sl → (List D → Prop) → Prop) : TE := fun σ H Q => ∃ (Rf RH Hf : Hp) (δ : List Sl) (k : List D → Prop) (er : Er), SD K Rf RH Hf H σ δ ∧ EC K ct W σ Hf H er ∧ r er δ k ∧
  ∀ ds, k ds → ∀ l xs Gf G, Ext Hf H Gf G → G l = some (.lst xs) → Gf l = none → H l = none → DvA K Gf xs ds → Q (.ref l) G
/-- a cell that is not frozen changes -/
theorem Ext.updO {Hf H Gf G : Hp} {l : Addr} {o : HO} (e : Ext Hf H Gf G) (h : H l = none) (g : Gf l = none) : Ext Hf H Gf (upd G l o) :=
  ⟨fun a u q => by rw [upd_ne (ne_of_none q h)]; exact e.ex a u q, e.fz, fun a u q => by rw [upd_ne (ne_of_none q g)]; exact e.sub a u q, e.old⟩
/-- .. is frozen as it stands -/
theorem Ext.frz {Hf H Gf G : Hp} {l : Addr} {o : HO} (e : Ext Hf H Gf G) (h : H l = none) (g : Gf l = none) (q : G l = some o) : Ext Hf H (upd Gf l o) G :=
  ⟨e.ex, e.fz.trans (.new g), fun a u z => by
    by_cases n : a = l
    · subst n; rw [upd_same] at z; cases z; exact q
    · rw [upd_ne n] at z; exact e.sub a u z, fun a n => by
    rw [upd_ne (fun z => n (by rw [z]; exact h))]; exact e.old a n⟩
theorem le_of_ln {X : Cx} {e : Expr} {ct : ErT} {W : WX} {r : Er → List Sl → (List D → Prop) → Prop} (h : PE X e (LN X.K ct W r)) : PE X e (LE X.K ct W false fun er δ k => r er δ fun ds => k (.list ds)) :=
  h.weak fun σ H Q ⟨Rf, RH, Hf, δ, k, er, S, qe, r, q⟩ => ⟨Rf, RH, Hf, δ, _, er, S, qe, r, fun ds hk l xs Gf G e h1 h2 h3 t => q _ hk _ (upd Gf l (.lst xs)) G (e.frz h3 h2 h1) (Dv.lst upd_same (t.mono (.new h2)))⟩

theorem SD.wipe {K : PySem.W.Frag} {Rf RH Hf H : Hp} {σ : L2.St} {δ : List Sl} (S : SD K Rf RH Hf H σ δ) : ∀ vs : List Nat, SD K Rf RH Hf H (wipe σ vs) (wipeL δ vs)
  | [] => S
  | v :: vs => (S.wipe vs).setN
theorem wipe_in {σ : L2.St} {j : Nat} : ∀ {vs : List Nat}, j ∈ vs → j < σ.length → (wipe σ vs)[j]? = some none
  | v :: vs, h, hl => by
    unfold L2.wipe
    by_cases e : v = j
    · subst e; rw [List.getElem?_set_self (by rw [wipe_length]; exact hl)]
    · rw [List.getElem?_set_ne e]
      exact wipe_in (by rcases List.mem_cons.mp h with z | z; exact absurd z.symm e; exact z) hl
theorem wipe_dif {σ σ' : L2.St} {vs is : List Nat} (h : Dif is (wipe σ vs) σ') (s : ∀ i ∈ is, i ∈ vs) : wipe σ' vs = wipe σ vs := by
  have hl : σ'.length = σ.length := by rw [h.1, wipe_length]
  apply List.ext_getElem?
  intro j
  by_cases hj : j ∈ vs
  · by_cases hs : j < σ.length
    · rw [wipe_in hj hs, wipe_in hj (by rw [hl]; exact hs)]
    · rw [List.getElem?_eq_none (by rw [wipe_length]; omega), List.getElem?_eq_none (by rw [wipe_length]; omega)]
  · rw [wipe_out hj, h.2 j fun q => hj (s j q)]
section
variable {X : Cx} {G : Ctx} {ct : ErT} {W W0 : WX} {a b c e tg : Expr} {ca cb cc ce : CE} {pos apos : Pos} {i : Nat} {x : Str}
theorem dt_ifs0 : PTs X [] (LT X.K ct W0 (fun er => rg G er .no)) := ⟨fun pins s σ H Q I ⟨Rf, RH, Hf, δ, k, er, S, qe, r, q⟩ => pts_nil.run pins s σ H Q I (q true (by dsimp only at r; unfold rg at r; exact r) Hf H (.refl S.sub))⟩
theorem dt_ifs1 {q : CQ} (h : PT X c (LT X.K ct W0 (fun er => rq G er q))) : PTs X [c] (LT X.K ct W0 (fun er => rg G er (.some q))) := ⟨fun pins s σ H Q I ⟨Rf, RH, Hf, δ, k, er, S, qe, r, q⟩ => (pts_one h).run pins s σ H Q I (by
  dsimp only at r
  unfold rg at r
  exact ⟨Rf, RH, Hf, δ, k, er, S, qe, r, q⟩)⟩
theorem dn_lc {elt iter : Expr} {ifs : List Expr} {scope : Scope} {own : List (Str × Nat)} {ct' : CT} {it : CI} {cg : CG} (hc : X.calm = true) (hN : X.N.Nodup) (hi : PI X tg iter (LI X.K ct W true (fun er => ri G true er it))) (ok : BlkOk X.N X.env.scope scope own) (hix : ∀ i ∈ ct'.ixs, i ∈ own.map (·.2))
    (hg : ∀ (s : Shared) (H : Hp) (C : Addr) (cl : List (Str × Addr)) (fp : List Addr), PG (X.blk s H scope (compEnvC scope cl C X.env) fp) tg (LG X.K ct')) (ht : ∀ (s : Shared) (H : Hp) (C : Addr) (cl : List (Str × Addr)) (fp : List Addr), PTs (X.blk s H scope (compEnvC scope cl C X.env) fp) ifs (LT X.K ct W0 (fun er => rg G er cg)))
    (he : ∀ (s : Shared) (H : Hp) (C : Addr) (cl : List (Str × Addr)) (fp : List Addr), PE (X.blk s H scope (compEnvC scope cl C X.env) fp) elt (LE X.K ct W0 false (fun er => rd G false er ce))) (hs : ∀ x, foldedSetIterable iter X.env x = pure x) :
    ∀ σ H Q, LN X.K ct W (fun er => rn G er (.lc (own.map (·.2)) ct' it cg ce)) σ H Q → tLc (LI X.K ct W true (fun er => ri G true er it)) (LG X.K ct') (LT X.K ct W0 (fun er => rg G er cg)) (LE X.K ct W0 false (fun er => rd G false er ce)) (own.map (·.2)) σ H Q := by
  intro σ H Q ⟨Rf, RH, Hf, δ, k, er, S, qe, r, q⟩
  dsimp only at r
  unfold rn at r
  refine ⟨Rf, RH, Hf, δ, _, er, S, qe, r, fun items ⟨hz, Wd, w0, step, fin⟩ J Gf H1 e hJ D hD => ?_⟩
  have hsl : 1000000 < sizeLine := by rw [sizeLine_eq]; omega
  refine ⟨fun i m H' => m = items.length - i ∧ i ≤ items.length ∧ ∃ (Jf : Hp) (acc : List V) (ds : List PyData), Ext Gf H1 Jf H' ∧ Jf D = none ∧ H' D = some (.lst acc) ∧ DvA X.K Jf acc ds ∧ ds.length ≤ i ∧ Wd i ds,
    ⟨_, rfl, Nat.zero_le _, Gf, [], [], .own e.sub hD, e.sub.free hD, upd_same, .nil, Nat.zero_le _, w0⟩, ?_⟩
  rintro i m H' ⟨rfl, hi, Jf, acc, ds, e1, hf, hD1, t1, hl1, w1⟩
  obtain ⟨j1, j2⟩ := hJ Jf H' e1
  by_cases hlt : i < items.length
  · refine .inr ⟨?_, fun H'' => i + 1 ≤ items.length ∧ ∃ (Jf : Hp) (acc : List V) (ds : List PyData), Ext Gf H1 Jf H'' ∧ Jf D = none ∧ H'' D = some (.lst acc) ∧ DvA X.K Jf acc ds ∧ ds.length ≤ i + 1 ∧ Wd (i + 1) ds, fun H'' n => ⟨items.length - (i + 1), by omega, rfl, n⟩, ?_⟩
    · exact (j1 i items[i] (by simp [hlt])).1
    · intro x H2 hy
      obtain ⟨Jf2, e2, hx⟩ := (j1 i items[i] (by simp [hlt])).2 x H2 hy
      have S2 := ((S.mono e).mono (e1.trans e2)).wipe (own.map (·.2))
      refine ⟨Rf, RH, Jf2, _, _, _, S2, hx, step i items[i] ds (by simp [hlt]) w1 hl1, fun δ' hδ σ' S' dif => ⟨wipe_dif dif hix, Rf, RH, Jf2, δ', _, er0, S', EC.none, hδ, fun t ht Kf H3 e3 => ?_⟩⟩
      have e23 := e2.trans e3
      have hne : H' D ≠ none := by rw [hD1]; exact fun z => by cases z
      have hf3 : Kf D = none := (e23.old D hne).trans hf
      cases t with
      | false =>
        dsimp only at ht ⊢
        rw [if_neg Bool.false_ne_true] at ht ⊢
        exact ⟨hlt, Kf, acc, ds, e1.trans e23, hf3, e23.ex _ _ hD1, t1.mono e23.fz, by omega, ht⟩
      | true =>
        dsimp only at ht ⊢
        rw [if_pos rfl] at ht ⊢
        refine ⟨Rf, RH, Kf, δ', _, er0, S'.mono e3, EC.none, ht, fun d hd v Lf H4 e4 hv => ?_⟩
        have e24 := e23.trans e4
        have hf4 : Lf D = none := (e24.old D hne).trans hf
        refine ⟨acc, e24.ex _ _ hD1, by rw [t1.length]; omega, hlt, Lf, acc ++ [v], ds ++ [d], (e1.trans e24).updO hD hf4, hf4, upd_same, (t1.mono e24.fz).app (.cons hv .nil), by rw [List.length_append, List.length_singleton]; omega, hd⟩
  · have ei : i = items.length := by omega
    subst ei
    exact .inl ⟨j2 _ (Nat.le_refl _), q ds (fin ds w1) D acc Jf H' (e.trans e1) hD1 hf (by
      cases z : H D with
      | none => rfl
      | some o => rw [e.ex _ _ z] at hD; cases hD) t1⟩
theorem de_lcN {elt iter : Expr} {ifs : List Expr} {scope : Scope} {own : List (Str × Nat)} {ct' : CT} {it : CI} {cg : CG} (hc : X.calm = true) (hN : X.N.Nodup) (hi : PI X tg iter (LI X.K ct W true (fun er => ri G true er it))) (ok : BlkOk X.N X.env.scope scope own) (hix : ∀ i ∈ ct'.ixs, i ∈ own.map (·.2))
    (hg : ∀ (s : Shared) (H : Hp) (C : Addr) (cl : List (Str × Addr)) (fp : List Addr), PG (X.blk s H scope (compEnvC scope cl C X.env) fp) tg (LG X.K ct')) (ht : ∀ (s : Shared) (H : Hp) (C : Addr) (cl : List (Str × Addr)) (fp : List Addr), PTs (X.blk s H scope (compEnvC scope cl C X.env) fp) ifs (LT X.K ct W0 (fun er => rg G er cg)))
    (he : ∀ (s : Shared) (H : Hp) (C : Addr) (cl : List (Str × Addr)) (fp : List Addr), PE (X.blk s H scope (compEnvC scope cl C X.env) fp) elt (LE X.K ct W0 false (fun er => rd G false er ce))) (hs : ∀ x, foldedSetIterable iter X.env x = pure x) :
    PE X (.ListComp elt [⟨tg, iter, ifs, 0⟩] scope pos) (LN X.K ct W (fun er => rn G er (.lc (own.map (·.2)) ct' it cg ce))) :=
  (pe_lc hc hN hi ok hg ht he hs).weak (dn_lc hc hN hi ok hix hg ht he hs)
theorem rd_rn {own : List Nat} {ct' : CT} {it : CI} {cg : CG} {er : Er} {δ : List Sl} {k : KD} (h : rd G false er (.lc own ct' it cg ce) δ k) : rn G er (.lc own ct' it cg ce) δ (fun ds => k (.list ds)) := by
  unfold rd at h
  unfold rn
  exact h
theorem de_lc {elt iter : Expr} {ifs : List Expr} {scope : Scope} {own : List (Str × Nat)} {ct' : CT} {it : CI} {cg : CG} (hc : X.calm = true) (hN : X.N.Nodup) (hi : PI X tg iter (LI X.K ct W true (fun er => ri G true er it))) (ok : BlkOk X.N X.env.scope scope own) (hix : ∀ i ∈ ct'.ixs, i ∈ own.map (·.2))
    (hg : ∀ (s : Shared) (H : Hp) (C : Addr) (cl : List (Str × Addr)) (fp : List Addr), PG (X.blk s H scope (compEnvC scope cl C X.env) fp) tg (LG X.K ct')) (ht : ∀ (s : Shared) (H : Hp) (C : Addr) (cl : List (Str × Addr)) (fp : List Addr), PTs (X.blk s H scope (compEnvC scope cl C X.env) fp) ifs (LT X.K ct W0 (fun er => rg G er cg)))
    (he : ∀ (s : Shared) (H : Hp) (C : Addr) (cl : List (Str × Addr)) (fp : List Addr), PE (X.blk s H scope (compEnvC scope cl C X.env) fp) elt (LE X.K ct W0 false (fun er => rd G false er ce))) (hs : ∀ x, foldedSetIterable iter X.env x = pure x) :
    PE X (.ListComp elt [⟨tg, iter, ifs, 0⟩] scope pos) (LE X.K ct W false (fun er => rd G false er (.lc (own.map (·.2)) ct' it cg ce))) :=
  (le_of_ln (de_lcN hc hN hi ok hix hg ht he hs)).weak fun σ H Q ⟨Rf, RH, Hf, δ, k, er, S, qe, r, q⟩ => ⟨Rf, RH, Hf, δ, k, er, S, qe, rd_rn r, q⟩
theorem dn_lst {es : List Expr} {cl : CL} (h : PA X es (LA X.K ct W false (fun er => rl G false er cl))) : PE X (.List es pos) (LN X.K ct W (fun er => rn G er (.lst cl))) :=
  (pe_lst h).weak fun σ H Q ⟨Rf, RH, Hf, δ, k, er, S, qe, r, q⟩ => by
    (dsimp only at r; unfold rn at r)
    refine ⟨Rf, RH, Hf, δ, _, er, S, qe, r, fun ds hds vs Gf G e hv => ?_⟩
    have t := VBA.dv hv
    exact ⟨by rw [t.length]; exact hds.1, fun p hp => q _ hds.2 p vs Gf _ (e.trans (.own e.sub hp)) upd_same (e.sub.free hp) (by
      cases z : H p with
      | none => rfl
      | some o => rw [e.ex _ _ z] at hp; cases hp) t⟩
theorem dn_cat (ha : PE X a (LE X.K ct W true (fun er => rd G true er ca))) (hb : PE X b (LE X.K ct W true (fun er => rd G true er cb))) : PE X (.BinOp a .Add b pos) (LN X.K ct W (fun er => rn G er (.bin .add ca cb))) :=
  (pe_op op_cat ha hb).weak fun σ H Q ⟨Rf, RH, Hf, δ, k, er, S, qe, r, q⟩ => by
    (dsimp only at r; unfold rn at r)
    refine ⟨Rf, RH, Hf, δ, _, er, S, qe, r, fun d hd v Gf J e hv => ⟨Rf, RH, Gf, δ, _, er, S.mono e, qe.mono e, hd, fun d2 hd2 v2 Jf L e2 hv2 => ?_⟩⟩
    obtain ⟨xs, ys, rfl, rfl, hz, hk⟩ := hd2
    obtain ⟨l, us, rfl, hl, t⟩ := VS.lst_ e.sub hv
    obtain ⟨m, ws, rfl, hm, t2⟩ := VS.lst_ e2.sub hv2
    have e3 := e.trans e2
    exact ⟨l, m, us, ws, rfl, rfl, e2.ex _ _ hl, hm, by rw [t.length, t2.length]; exact hz, fun p hp => q _ hk p _ Jf _ (e3.trans (.own e2.sub hp)) upd_same (e2.sub.free hp) (e3.ex.free hp) ((t.mono e2.fz).app t2)⟩
theorem dn_listof {q : Pos} (hg : Gl X "list") (hm : X.mg "list" = none) (ha : PE X a (LE X.K ct W true (fun er => rd G true er ca))) (hs : starEach [a] X.env = [(false, eval a X.env)]) :
    PE X (.Call (.Name "list" q) [a] [] pos) (LN X.K ct W (fun er => rn G er (.blt .list (.cons ca .nil)))) :=
  (pe_callTy call_list_of hg hm (by decide +kernel) (pa_cons ha pa_nil (by rw [hs]; rfl)) (by decide) (by decide) (by rw [hs]; rfl) rfl).weak fun σ H Q ⟨Rf, RH, Hf, δ, k, er, S, qe, r, q⟩ => by
    (dsimp only at r; unfold rn at r)
    refine ⟨Rf, RH, Hf, δ, _, er, S, qe, r, fun d hd v Gf J e hv => ?_⟩
    obtain ⟨xs, h, hk⟩ := hd
    rcases h with rfl | rfl
    · obtain ⟨l, us, rfl, hl, t⟩ := VS.lst_ e.sub hv
      exact ⟨l, us, rfl, .inl (.inl (.of hl)), fun p hp => q _ hk p _ Gf _ (e.trans (.own e.sub hp)) upd_same (e.sub.free hp) (e.ex.free hp) t⟩
    · obtain ⟨l, us, rfl, hl, t⟩ := VS.tup_ e.sub hv
      exact ⟨l, us, rfl, .inr hl, fun p hp => q _ hk p _ Gf _ (e.trans (.own e.sub hp)) upd_same (e.sub.free hp) (e.ex.free hp) t⟩
theorem dn_slc {lo hi : Option Expr} {cl ch : CP} {p2 : Pos} (ha : PE X a (LE X.K ct W true (fun er => rd G true er ca))) (hl : PO X lo (LO X.K ct W (fun er => rp G er cl))) (hh : PO X hi (LO X.K ct W (fun er => rp G er ch))) :
    PE X (.Subscript a (.Slice lo hi none p2) pos) (LN X.K ct W (fun er => rn G er (.slc ca cl ch))) :=
  (pe_slice sl_list ha hl hh).weak fun σ H Q ⟨Rf, RH, Hf, δ, k, er, S, qe, r, q⟩ => by
    (dsimp only at r; unfold rn at r)
    refine ⟨Rf, RH, Hf, δ, _, er, S, qe, r, fun d hd v Gf J e hv => ⟨Rf, RH, Gf, δ, _, er, S.mono e, qe.mono e, hd, fun l hd2 Lf L e2 => ⟨Rf, RH, Lf, δ, _, er, (S.mono e).mono e2, (qe.mono e).mono e2, hd2, fun u hd3 Mf M e3 => ?_⟩⟩⟩
    obtain ⟨xs, rfl, hk⟩ := hd3
    obtain ⟨m, us, rfl, hl, t⟩ := VS.lst_ (e2.trans e3).sub (VS.mono (e2.trans e3) hv)
    have e4 := (e.trans e2).trans e3
    exact ⟨m, us, rfl, .inl (.of hl), fun p hp => q _ hk p _ Mf _ (e4.trans (.own e3.sub hp)) upd_same (e3.sub.free hp) (e4.ex.free hp) (cut_dv t)⟩
end
/-! ### what some names are given: frozen data, or lists of the def's own -/
def VSl (K : PySem.W.Frag) (H0 Hf H : Hp) (v : V) : Sl → Prop
  | .d x => Dv K Hf v x
  | .l ds => ∃ l xs, v = .ref l ∧ H l = some (.lst xs) ∧ Hf l = none ∧ H0 l = none ∧ DvA K Hf xs ds
  | _ => False
theorem VSl.mono {K : PySem.W.Frag} {H0 Hf H Gf G : Hp} {v : V} {s : Sl} (e : Ext Hf H Gf G) (h : VSl K H0 Hf H v s) : VSl K H0 Gf G v s := by
  cases s with
  | no => exact h
  | d x => exact Dv.mono e.fz h
  | l ds =>
    obtain ⟨l, xs, rfl, h1, h2, h3, t⟩ := h
    exact ⟨l, xs, rfl, e.ex _ _ h1, (e.old l (by rw [h1]; exact fun z => by cases z)).trans h2, h3, t.mono e.fz⟩
  | m _ => exact h
inductive VSlA (K : PySem.W.Frag) (H0 Hf H : Hp) : List V → List Sl → Prop
  | nil : VSlA K H0 Hf H [] []
  | cons {v : V} {vs : List V} {s : Sl} {ss : List Sl} : VSl K H0 Hf H v s → (isOwn s = true → ∀ (j : Nat) (t : Sl), ss[j]? = some t → isOwn t = true → vs[j]? ≠ some v) → VSlA K H0 Hf H vs ss → VSlA K H0 Hf H (v :: vs) (s :: ss)
theorem VSl.lower {K : PySem.W.Frag} {H0 H1 Hf H : Hp} {v : V} {s : Sl} (e : Ex H0 H1) (h : VSl K H1 Hf H v s) : VSl K H0 Hf H v s := by
  cases s with
  | no => exact h
  | d x => exact h
  | l ds =>
    obtain ⟨l, xs, rfl, h1, h2, h3, t⟩ := h
    exact ⟨l, xs, rfl, h1, h2, e.free h3, t⟩
  | m _ => exact h
theorem VSlA.lower {K : PySem.W.Frag} {H0 H1 Hf H : Hp} (e : Ex H0 H1) : ∀ {vs : List V} {ss : List Sl}, VSlA K H1 Hf H vs ss → VSlA K H0 Hf H vs ss
  | _, _, .nil => .nil
  | _, _, .cons h d t => .cons (h.lower e) d (t.lower e)
theorem VSlA.at_ {K : PySem.W.Frag} {H0 Hf H : Hp} : ∀ {vs : List V} {ss : List Sl}, VSlA K H0 Hf H vs ss → ∀ {j : Nat} {v : V} {s : Sl}, vs[j]? = some v → ss[j]? = some s → VSl K H0 Hf H v s
  | _, _, .cons h _ t, 0, _, _, e1, e2 => by simp at e1 e2; subst e1 e2; exact h
  | _, _, .cons _ _ t, j + 1, _, _, e1, e2 => t.at_ (j := j) (by simpa using e1) (by simpa using e2)
  | _, _, .nil, _, _, _, e1, _ => by simp at e1
def LSl (K : PySem.W.Frag) (ct : ErT) (W : WX) (r : Er → List Sl → (List Sl → Prop) → Prop) : TA := fun σ H Q => ∃ (Rf RH Hf : Hp) (δ : List Sl) (k : List Sl → Prop) (er : Er), SD K Rf RH Hf H σ δ ∧ EC K ct W σ Hf H er ∧ r er δ k ∧ ∀ ss, k ss → ∀ vs Gf G, Ext Hf H Gf G → VSlA K H Gf G vs ss → Q vs G
section
variable {X : Cx} {G : Ctx} {ct : ErT} {W : WX} {e : Expr} {ce : CE}
theorem das_nil : PA X [] (LSl X.K ct W (fun er => ra G er .nil)) := pa_nil.weak fun σ H Q ⟨Rf, RH, Hf, δ, k, er, S, qe, r, q⟩ => q [] (by (dsimp only at r; unfold ra at r); exact r) [] Hf H (.refl S.sub) .nil
theorem das_d {es : List Expr} {ca : CA} (ha : PE X e (LE X.K ct W false (fun er => rd G false er ce))) (hr : PA X es (LSl X.K ct W (fun er => ra G er ca))) (hs : starEach (e :: es) X.env = (false, eval e X.env) :: starEach es X.env) :
    PA X (e :: es) (LSl X.K ct W (fun er => ra G er (.d ce ca))) :=
  (pa_cons ha hr hs).weak fun σ H Q ⟨Rf, RH, Hf, δ, k, er, S, qe, r, q⟩ => by
    (dsimp only at r; unfold ra at r)
    refine ⟨Rf, RH, Hf, δ, _, er, S, qe, r, fun d hd v Gf G e hv => ⟨Rf, RH, Gf, δ, _, er, S.mono e, qe.mono e, hd, fun ss hss vs Jf J e2 hvs => q _ hss _ Jf J (e.trans e2) (.cons ?_ (fun z => by cases z) (hvs.lower e.ex))⟩⟩
    exact Dv.mono e2.fz hv
theorem das_o {es : List Expr} {ca : CA} (ha : PE X e (LN X.K ct W (fun er => rn G er ce))) (hr : PA X es (LSl X.K ct W (fun er => ra G er ca))) (hs : starEach (e :: es) X.env = (false, eval e X.env) :: starEach es X.env) :
    PA X (e :: es) (LSl X.K ct W (fun er => ra G er (.o ce ca))) :=
  (pa_cons ha hr hs).weak fun σ H Q ⟨Rf, RH, Hf, δ, k, er, S, qe, r, q⟩ => by
    (dsimp only at r; unfold ra at r)
    refine ⟨Rf, RH, Hf, δ, _, er, S, qe, r, fun ds hd l xs Gf G e h1 h2 h3 t => ⟨Rf, RH, Gf, δ, _, er, S.mono e, qe.mono e, hd, fun ss hss vs Jf J e2 hvs => q _ hss _ Jf J (e.trans e2) (.cons ?_ (fun _ j s' hj ho hv => ?_) (hvs.lower e.ex))⟩⟩
    · have := VSl.mono (s := .l ds) (H0 := H) e2 ⟨l, xs, rfl, h1, h2, h3, t⟩
      exact this
    · have z := hvs.at_ hv hj
      cases s' with
      | no => cases ho
      | d x => cases ho
      | m x => exact z
      | l ys =>
        obtain ⟨m, us, em, _, _, m3, _⟩ := z
        cases em
        rw [h1] at m3
        cases m3
end
end FR

/-! FrJ: statements -/
namespace FR
open PySem L2

/-- what is wanted behind a statement, over data and over the heap -/
structure EdOk (K : PySem.W.Frag) (Rf RH : Hp) (E : Ed) (D : Ends) : Prop where
  nx : ∀ δ' σ' Gf G, E.nx δ' → SD K Rf RH Gf G σ' δ' → D.nx σ' G
  rt : ∀ d v Gf G, E.rt d → Ext Rf RH Gf G → Dv K Gf v d → D.rt v G
  bk : ∀ δ' σ' Gf G, E.bk δ' → SD K Rf RH Gf G σ' δ' → D.bk σ' G
  ct : ∀ δ' σ' Gf G, E.ct δ' → SD K Rf RH Gf G σ' δ' → D.ct σ' G
  rf : ∀ xs l vs Gf G, E.rf xs → Ext Rf RH Gf G → G l = some (.lst vs) → Gf l = none → RH l = none → DvA K Gf vs xs → D.rt (.ref l) G
def LS (K : PySem.W.Frag) (ct : ErT) (W : WX) (r : Er → Ed → List Sl → Prop) : TS := fun D σ H => ∃ (Rf RH Hf : Hp) (δ : List Sl) (er : Er) (E : Ed), SD K Rf RH Hf H σ δ ∧ (∀ σ, EC K ct W σ Rf RH er) ∧ r er E δ ∧ EdOk K Rf RH E D
theorem _root_.L2.PS.weak {X : Cx} {e : Stmt} {t t' : TS} (h : PS X e t) (w : ∀ D σ H, t' D σ H → t D σ H) : PS X e t' := ⟨fun pins s σ H Q I q => h.run pins s σ H Q I (w Q σ H q)⟩
theorem _root_.L2.PSs.weak {X : Cx} {e : List Stmt} {t t' : TS} (h : PSs X e t) (w : ∀ D σ H, t' D σ H → t D σ H) : PSs X e t' := ⟨fun pins s σ H Q I q => h.run pins s σ H Q I (w Q σ H q)⟩
section
variable {X : Cx} {G : Ctx} {ct : ErT} {W : WX} {a b c e tg : Expr} {ca cb cc ce : CE} {pos apos tpos : Pos} {i j l : Nat} {x y z : Str} {st : Stmt}
theorem SD.ecs {K : PySem.W.Frag} {Rf RH Hf H : Hp} {σ : L2.St} {δ : List Sl} (S : SD K Rf RH Hf H σ δ) {er : Er} (q : ∀ σ, EC K ct W σ Rf RH er) : EC K ct W σ Hf H er := (q σ).mono S.ext
theorem ds_asg (h : PS X st (tAsg (LE X.K ct W false (fun er => rd G false er ce)) (gName i))) : PS X st (LS X.K ct W (fun er => ws G er (.asg i ce))) :=
  h.weak fun D σ H ⟨Rf, RH, Hf, δ, er, E, S, qe, r, q⟩ => by
    dsimp only at r
    unfold ws at r
    exact ⟨Rf, RH, Hf, δ, _, er, S, S.ecs qe, r, fun d hd v Gf J e hv => q.nx _ _ _ _ hd ((S.mono e).setD hv)⟩
theorem ds_own (h : PS X st (tAsg (LN X.K ct W (fun er => rn G er ce)) (gName i))) : PS X st (LS X.K ct W (fun er => ws G er (.own i ce))) :=
  h.weak fun D σ H ⟨Rf, RH, Hf, δ, er, E, S, qe, r, q⟩ => by
    dsimp only at r
    unfold ws at r
    refine ⟨Rf, RH, Hf, δ, _, er, S, S.ecs qe, r, fun ds hd p xs Gf J e h1 h2 h3 t => q.nx _ _ Gf J hd ?_⟩
    have hR : RH p = none := by
      cases z : RH p with
      | none => rfl
      | some o => rw [S.ext.ex _ _ z] at h3; cases h3
    have S1 := S.mono e
    refine S1.setO S1.ext (fun _ _ => rfl) ⟨hR, h2, xs, h1, t⟩ rfl fun j s hj h4 h5 h6 => ?_
    exact S.noSlot h3 j s h4 h5 h6
theorem ds_new (h : PS X st (tAsg tDNewK (gName i))) : PS X st (LS X.K ct W (fun er => ws G er (.new i))) :=
  h.weak fun D σ H ⟨Rf, RH, Hf, δ, er, E, S, qe, r, q⟩ => by
    dsimp only at r
    unfold ws at r
    intro p h3
    refine q.nx _ _ Hf _ r ?_
    have hR : RH p = none := by
      cases z : RH p with
      | none => rfl
      | some o => rw [S.ext.ex _ _ z] at h3; cases h3
    have e : Ext Hf H Hf (upd H p (.dK [])) := .own S.sub h3
    have S1 := S.mono e
    refine S1.setO S1.ext (fun _ _ => rfl) ⟨hR, S.sub.free h3, [], upd_same, .nil⟩ rfl fun j s hj h4 h5 h6 => ?_
    exact S.noSlot h3 j s h4 h5 h6
/-- an own cell is frozen -/
theorem ds_frz {sts : List Stmt} {cb : CB} (h : PSs X sts (LS X.K ct W (fun er => wb G er cb))) : PSs X sts (LS X.K ct W (fun er => wb G er (.cons (.frz i) cb))) :=
  h.weak fun D σ H ⟨Rf, RH, Hf, δ, er, E, S, qe, r, q⟩ => by
    dsimp only at r
    unfold wb ws at r
    obtain ⟨xs, h1, r⟩ := r
    obtain ⟨l, vs, e1, e2, e3, e4, e5⟩ := S.list h1
    have ex : Ext Rf RH (upd Hf l (.lst vs)) H := S.ext.frz e2 e3 e4
    have ex2 : Ex Hf (upd Hf l (.lst vs)) := .new e3
    refine ⟨Rf, RH, upd Hf l (.lst vs), _, er, E, ?_, qe, r, q⟩
    have hd : Dv X.K (upd Hf l (.lst vs)) (.ref l) (.list xs) := .lst upd_same (e5.mono ex2)
    have hi := S.len
    have S2 : SD X.K Rf RH (upd Hf l (.lst vs)) H (σ.set i (some (.ref l))) (δ.set i (.d (.list xs))) := by
      refine ⟨ex, by rw [List.length_set, List.length_set, S.len], fun j s o h1' h2' => ?_, fun j k s t p h1' h2' o1 o2 q1 q2 => ?_⟩
      · by_cases e : i = j
        · subst e
          have hi : i < δ.length := by have := (List.getElem?_eq_some_iff.mp h1').1; rw [List.length_set] at this; exact this
          rw [List.getElem?_set_self hi] at h1'
          rw [List.getElem?_set_self (by rw [S.len]; exact hi)] at h2'
          cases h1'; cases h2'
          exact ⟨_, rfl, hd⟩
        · rw [List.getElem?_set_ne e] at h1' h2'
          have z := S.at_ j s o h1' h2'
          have ne : ∀ p, o = some (.ref p) → isOwn s = true → p ≠ l := fun p hp ho hpl => e (S.sep i j _ _ l h1 h1' rfl ho e1 (by rw [h2', hp, hpl]))
          cases s with
          | no => trivial
          | d x => obtain ⟨v, z1, z2⟩ := z; exact ⟨v, z1, z2.mono ex2⟩
          | l ds => obtain ⟨p, z1, z2, z3, zs, z4, z5⟩ := z; exact ⟨p, z1, z2, by rw [upd_ne (ne p z1 rfl)]; exact z3, zs, z4, z5.mono ex2⟩
          | m ds => obtain ⟨p, z1, z2, z3, zs, z4, z5⟩ := z; exact ⟨p, z1, z2, by rw [upd_ne (ne p z1 rfl)]; exact z3, zs, z4, KvA.mono ex2 z5⟩
      · have nj : ∀ {j : Nat} {s : Sl}, (δ.set i (.d (.list xs)))[j]? = some s → isOwn s = true → i ≠ j := fun {j s} h o e => by
          subst e
          have hi : i < δ.length := by have := (List.getElem?_eq_some_iff.mp h).1; rw [List.length_set] at this; exact this
          rw [List.getElem?_set_self hi] at h; cases h; cases o
        have a := nj h1' o1
        have b := nj h2' o2
        rw [List.getElem?_set_ne a] at h1' q1
        rw [List.getElem?_set_ne b] at h2' q2
        exact S.sep j k s t p h1' h2' o1 o2 q1 q2
    have es : σ.set i (some (.ref l)) = σ := by
      apply List.ext_getElem?
      intro j
      by_cases e : i = j
      · subst e
        rw [List.getElem?_set_self (by rw [List.getElem?_eq_some_iff] at e1; exact e1.1), e1]
      · rw [List.getElem?_set_ne e]
    rw [es] at S2
    exact S2
theorem ds_unp {is : List Nat} (h : PS X st (tAsg (LE X.K ct W false (fun er => rd G false er ce)) (LG X.K (.t is)))) : PS X st (LS X.K ct W (fun er => ws G er (.unp is ce))) :=
  h.weak fun D σ H ⟨Rf, RH, Hf, δ, er, E, S, qe, r, q⟩ => by
    dsimp only at r
    unfold ws at r
    exact ⟨Rf, RH, Hf, δ, _, er, S, S.ecs qe, r, fun d hd v Gf J e hv => ⟨Rf, RH, Gf, δ, d, _, S.mono e, hv, hd, fun δ' hk σ' S' _ => q.nx _ _ _ _ hk S'⟩⟩
theorem ds_par (h : PS X st (tPar i j (LA X.K ct W false (fun er => rl G false er (.cons ca (.cons cb .nil)))))) : PS X st (LS X.K ct W (fun er => ws G er (.par i j ca cb))) :=
  h.weak fun D σ H ⟨Rf, RH, Hf, δ, er, E, S, qe, r, q⟩ => by
    dsimp only at r
    unfold ws at r
    refine ⟨Rf, RH, Hf, δ, _, er, S, S.ecs qe, r, fun ds hd vs Gf J e hv => ?_⟩
    obtain ⟨x, y, rfl, hk⟩ := hd
    cases VBA.dv hv with
    | cons h1 t => cases t with
      | cons h2 t => cases t; exact ⟨_, _, rfl, q.nx _ _ _ _ hk (((S.mono e).setD h1).setD h2)⟩
theorem ds_par3 (h : PS X st (tPar3 i j l (LA X.K ct W false (fun er => rl G false er (.cons ca (.cons cb (.cons cc .nil))))))) : PS X st (LS X.K ct W (fun er => ws G er (.par3 i j l ca cb cc))) :=
  h.weak fun D σ H ⟨Rf, RH, Hf, δ, er, E, S, qe, r, q⟩ => by
    dsimp only at r
    unfold ws at r
    refine ⟨Rf, RH, Hf, δ, _, er, S, S.ecs qe, r, fun ds hd vs Gf J e hv => ?_⟩
    obtain ⟨x, y, z, rfl, hk⟩ := hd
    cases VBA.dv hv with
    | cons h1 t => cases t with
      | cons h2 t => cases t with
        | cons h3 t => cases t; exact ⟨_, _, _, rfl, q.nx _ _ _ _ hk ((((S.mono e).setD h1).setD h2).setD h3)⟩
theorem SD.put1 {K : PySem.W.Frag} {Rf RH Hf H H0 : Hp} {σ : L2.St} {δ : List Sl} (S : SD K Rf RH Hf H σ δ) {i : Nat} {v : V} {s : Sl} (h0 : Ex RH H0) (h : VSl K H0 Hf H v s)
    (un : isOwn s = true → ∀ (j : Nat) (t : Sl), j ≠ i → δ[j]? = some t → isOwn t = true → σ[j]? ≠ some (some v)) : SD K Rf RH Hf H (σ.set i (some v)) (δ.set i s) := by
  cases s with
  | no => exact h.elim
  | d x => exact S.setD h
  | m x => exact h.elim
  | l ds =>
    obtain ⟨l, xs, rfl, h1, h2, h3, t⟩ := h
    exact S.setO S.ext (fun _ _ => rfl) ⟨h0.free h3, h2, xs, h1, t⟩ rfl fun j s hj h4 h5 h6 => un rfl j s hj h4 h5 h6
/-- a fresh own list stands in no slot -/
theorem SD.noOwn {K : PySem.W.Frag} {Rf RH Hf H Gf G : Hp} {σ : L2.St} {δ : List Sl} (S : SD K Rf RH Hf H σ δ) {v : V} {s : Sl} (h : VSl K H Gf G v s) (ho : isOwn s = true) : ∀ (j : Nat) (t : Sl), δ[j]? = some t → isOwn t = true → σ[j]? ≠ some (some v) := by
  cases s with
  | no => cases ho
  | d x => cases ho
  | m x => exact h.elim
  | l ds =>
    obtain ⟨l, xs, rfl, h1, h2, h3, t⟩ := h
    exact S.noSlot h3
theorem set_other {α : Type} {xs : List α} {i j : Nat} {x : α} (h : j ≠ i) : (xs.set i x)[j]? = xs[j]? := List.getElem?_set_ne (Ne.symm h)
theorem ds_parS2 {pa : CA} (hij : i ≠ j) (h : PS X st (tPar i j (LSl X.K ct W (fun er => ra G er pa)))) : PS X st (LS X.K ct W (fun er => ws G er (.parS [i, j] pa))) :=
  h.weak fun D σ H ⟨Rf, RH, Hf, δ, er, E, S, qe, r, q⟩ => by
    dsimp only at r
    unfold ws at r
    refine ⟨Rf, RH, Hf, δ, _, er, S, S.ecs qe, r, fun ss hd vs Gf J e hv => ?_⟩
    obtain ⟨δ', hδ, hk⟩ := hd
    cases hv with
    | nil => simp [setSl] at hδ
    | cons h1 d1 t => cases t with
      | nil => simp [setSl] at hδ
      | cons h2 d2 t => cases t with
        | cons _ _ _ => simp [setSl] at hδ
        | nil =>
          rename_i v s w u
          simp only [setSl, Option.some.injEq] at hδ
          subst hδ
          refine ⟨v, w, rfl, q.nx _ _ Gf _ hk ?_⟩
          have S1 := (S.mono e).put1 (i := i) S.ext.ex h1 fun ho k t hk' h4 h5 => S.noOwn h1 ho k t h4 h5
          refine S1.put1 (i := j) S.ext.ex h2 fun ho k t hk' h4 h5 => ?_
          by_cases eq : k = i
          · subst eq
            have hi : k < δ.length := by have := (List.getElem?_eq_some_iff.mp h4).1; rwa [List.length_set] at this
            rw [List.getElem?_set_self hi] at h4
            cases h4
            rw [List.getElem?_set_self (by rw [S.len]; exact hi)]
            intro z
            cases z
            exact d1 h5 0 u rfl ho rfl
          · rw [set_other eq] at h4 ⊢
            exact S.noOwn h2 ho k t h4 h5
theorem ds_parS3 {pa : CA} (hij : i ≠ j) (hil : i ≠ l) (hjl : j ≠ l) (h : PS X st (tPar3 i j l (LSl X.K ct W (fun er => ra G er pa)))) : PS X st (LS X.K ct W (fun er => ws G er (.parS [i, j, l] pa))) :=
  h.weak fun D σ H ⟨Rf, RH, Hf, δ, er, E, S, qe, r, q⟩ => by
    dsimp only at r
    unfold ws at r
    refine ⟨Rf, RH, Hf, δ, _, er, S, S.ecs qe, r, fun ss hd vs Gf J e hv => ?_⟩
    obtain ⟨δ', hδ, hk⟩ := hd
    cases hv with
    | nil => simp [setSl] at hδ
    | cons h1 d1 t => cases t with
      | nil => simp [setSl] at hδ
      | cons h2 d2 t => cases t with
        | nil => simp [setSl] at hδ
        | cons h3 d3 t => cases t with
          | cons _ _ _ => simp [setSl] at hδ
          | nil =>
            rename_i v s w u y x
            simp only [setSl, Option.some.injEq] at hδ
            subst hδ
            refine ⟨v, w, y, rfl, q.nx _ _ Gf _ hk ?_⟩
            have S1 := (S.mono e).put1 (i := i) S.ext.ex h1 fun ho k t hk' h4 h5 => S.noOwn h1 ho k t h4 h5
            have S2 := S1.put1 (i := j) S.ext.ex h2 fun ho k t hk' h4 h5 => by
              by_cases eq : k = i
              · subst eq
                have hi : k < δ.length := by have := (List.getElem?_eq_some_iff.mp h4).1; rwa [List.length_set] at this
                rw [List.getElem?_set_self hi] at h4
                cases h4
                rw [List.getElem?_set_self (by rw [S.len]; exact hi)]
                intro z
                cases z
                exact d1 h5 0 u rfl ho rfl
              · rw [set_other eq] at h4 ⊢
                exact S.noOwn h2 ho k t h4 h5
            refine S2.put1 (i := l) S.ext.ex h3 fun ho k t hk' h4 h5 => ?_
            by_cases eq : k = j
            · subst eq
              have hi : k < (δ.set i s).length := by have := (List.getElem?_eq_some_iff.mp h4).1; rwa [List.length_set] at this
              rw [List.getElem?_set_self hi] at h4
              cases h4
              rw [List.getElem?_set_self (by rw [S1.len]; exact hi)]
              intro z
              cases z
              exact d2 h5 0 x rfl ho rfl
            · rw [set_other eq] at h4 ⊢
              by_cases eq2 : k = i
              · subst eq2
                have hi : k < δ.length := by have := (List.getElem?_eq_some_iff.mp h4).1; rwa [List.length_set] at this
                rw [List.getElem?_set_self hi] at h4
                cases h4
                rw [List.getElem?_set_self (by rw [S.len]; exact hi)]
                intro z
                cases z
                exact d1 h5 1 x rfl ho rfl
              · rw [set_other eq2] at h4 ⊢
                exact S.noOwn h3 ho k t h4 h5
/-- an own cell changes -/
theorem SD.cell {K : PySem.W.Frag} {Rf RH Hf H : Hp} {σ : L2.St} {δ : List Sl} (S : SD K Rf RH Hf H σ δ) {s0 : Sl} {p : Addr} {o : HO} (h1 : σ[i]? = some (some (.ref p))) {s1 : Sl} (h2 : δ[i]? = some s1) (hs1 : isOwn s1 = true) (hR : RH p = none) (hF : Hf p = none) (hs : isOwn s0 = true)
    (ho : OwnAt K RH Hf (upd H p o) p s0) : SD K Rf RH Hf (upd H p o) σ (δ.set i s0) := by
  have es : σ.set i (some (.ref p)) = σ := by
    apply List.ext_getElem?
    intro j
    by_cases e : i = j
    · subst e
      rw [List.getElem?_set_self (by rw [List.getElem?_eq_some_iff] at h1; exact h1.1), h1]
    · rw [List.getElem?_set_ne e]
  have z := S.setO (i := i) (l := p) (s0 := s0) (G := upd H p o) (S.ext.updO hR hF) (fun a n => upd_ne n) ho hs fun j s hj h4 h5 h6 => hj (S.sep j i s s1 p h4 h2 h5 hs1 h6 h1)
  rw [es] at z
  exact z
theorem Ext.at_ {Hf H Gf G : Hp} (e : Ext Hf H Gf G) {p : Addr} {o : HO} (h : H p = some o) (f : Hf p = none) : G p = some o ∧ Gf p = none := ⟨e.ex _ _ h, (e.old p (by rw [h]; exact fun z => by cases z)).trans f⟩
theorem ds_app (hN : X.N[i]? = some x) (hv : Vis X.env.scope x) (hd : (x == ("__debug__" : Str)) = false) (hc : (x == ("__classdict__" : Str)) = false) {p q : Pos} (he : PE X e (LE X.K ct W false (fun er => rd G false er ce)))
    (hs : starEach [e] X.env = (false, eval e X.env) :: starEach [] X.env) (hl : (apos.endLine == pos.line) = true) (hb : attributeBase (.Name x p) "append" X.env (eval (.Name x p) X.env) = eval (.Name x p) X.env)
    (hsw : swapsWith (.Call (.Attribute (.Name x p) "append" apos) [e] [] pos) none q.line X.env = pure false) : PS X (.Expr (.Call (.Attribute (.Name x p) "append" apos) [e] [] pos) q) (LS X.K ct W (fun er => ws G er (.app i ce))) :=
  (ps_expr (pe_bm (T := "list") (id := "list.append") PySem.F.plainAttrs_list PySem.F.slot_list_append PySem.F.type_list_append mt_append (pe_var hN hv hd hc) (pa_cons he pa_nil hs) hb (by rw [hs]; rfl) hl hs rfl) hsw).weak fun D σ H ⟨Rf, RH, Hf, δ, er, E, S, qe, r, q⟩ => by
    dsimp only at r
    unfold ws at r
    obtain ⟨xs, h1, hz, r⟩ := r
    obtain ⟨l, vs, e1, e2, e3, e4, e5⟩ := S.list h1
    refine ⟨_, e1, .inl ⟨rfl, vs, .inl (.of e4)⟩, Rf, RH, Hf, δ, _, er, S, S.ecs qe, r, fun d hd v Gf J e hv => ?_⟩
    obtain ⟨g1, g2⟩ := e.at_ e4 e3
    refine ⟨l, vs, v, rfl, rfl, g1, by rw [e5.length, sizeLine_eq]; omega, ?_⟩
    exact q.nx _ _ Gf _ hd ((S.mono e).cell e1 h1 rfl e2 g2 rfl ⟨e2, g2, vs ++ [v], upd_same, (e5.mono e.fz).app (.cons hv .nil)⟩)
theorem ds_ext (hN : X.N[i]? = some x) (hv : Vis X.env.scope x) (hd : (x == ("__debug__" : Str)) = false) (hc : (x == ("__classdict__" : Str)) = false) {p q : Pos} (he : PE X e (LE X.K ct W false (fun er => rd G false er ce)))
    (hs : starEach [e] X.env = (false, eval e X.env) :: starEach [] X.env) (hl : (apos.endLine == pos.line) = true) (hb : attributeBase (.Name x p) "extend" X.env (eval (.Name x p) X.env) = eval (.Name x p) X.env)
    (hsw : swapsWith (.Call (.Attribute (.Name x p) "extend" apos) [e] [] pos) none q.line X.env = pure false) : PS X (.Expr (.Call (.Attribute (.Name x p) "extend" apos) [e] [] pos) q) (LS X.K ct W (fun er => ws G er (.ext i ce))) :=
  (ps_expr (pe_bm (T := "list") (id := "list.extend") PySem.F.plainAttrs_list PySem.F.slot_list_extend PySem.F.type_list_extend mt_extend (pe_var hN hv hd hc) (pa_cons he pa_nil hs) hb (by rw [hs]; rfl) hl hs rfl) hsw).weak fun D σ H ⟨Rf, RH, Hf, δ, er, E, S, qe, r, q⟩ => by
    dsimp only at r
    unfold ws at r
    obtain ⟨xs, h1, r⟩ := r
    obtain ⟨l, vs, e1, e2, e3, e4, e5⟩ := S.list h1
    refine ⟨_, e1, .inl ⟨rfl, vs, .inl (.of e4)⟩, Rf, RH, Hf, δ, _, er, S, S.ecs qe, r, fun d hd v Gf J e hv => ?_⟩
    obtain ⟨ys, rfl, hz, hk⟩ := hd
    obtain ⟨b, zs, rfl, hb, t⟩ := VS.lst_ e.sub (VB.s hv)
    obtain ⟨g1, g2⟩ := e.at_ e4 e3
    refine ⟨l, b, vs, zs, rfl, rfl, g1, hb, by rw [e5.length, t.length]; exact hz, ?_⟩
    exact q.nx _ _ Gf _ hk ((S.mono e).cell e1 h1 rfl e2 g2 rfl ⟨e2, g2, vs ++ zs, upd_same, (e5.mono e.fz).app t⟩)
theorem ds_extL {is : List Nat} (hN : X.N[i]? = some x) (hv : Vis X.env.scope x) (hd : (x == ("__debug__" : Str)) = false) (hc : (x == ("__classdict__" : Str)) = false) {p q : Pos} (he : PE X e (LE X.K ct W false (fun er => rd G false er ce)))
    (hs : starEach [e] X.env = (false, eval e X.env) :: starEach [] X.env) (hl : (apos.endLine == pos.line) = true) (hb : attributeBase (.Name x p) "extend" X.env (eval (.Name x p) X.env) = eval (.Name x p) X.env)
    (hsw : swapsWith (.Call (.Attribute (.Name x p) "extend" apos) [e] [] pos) none q.line X.env = pure false) : PS X (.Expr (.Call (.Attribute (.Name x p) "extend" apos) [e] [] pos) q) (LS X.K ct W (fun er => ws G er (.extL is i ce))) :=
  (ps_expr (pe_bm (T := "list") (id := "list.extend") PySem.F.plainAttrs_list PySem.F.slot_list_extend PySem.F.type_list_extend mt_extend (pe_var hN hv hd hc) (pa_cons he pa_nil hs) hb (by rw [hs]; rfl) hl hs rfl) hsw).weak fun D σ H ⟨Rf, RH, Hf, δ, er, E, S, qe, r, q⟩ => by
    dsimp only at r
    unfold ws at r
    obtain ⟨xs, h1, δ', hf, r⟩ := r
    obtain ⟨l, vs, e1, e2, e3, e4, e5⟩ := S.list h1
    obtain ⟨Hf', S'⟩ := S.frzS hf
    refine ⟨_, e1, .inl ⟨rfl, vs, .inl (.of e4)⟩, Rf, RH, Hf', δ', _, er0, S', EC.none, r, fun d hd v Gf J e hv => ?_⟩
    obtain ⟨ys, rfl, hfl, hz, hk⟩ := hd
    obtain ⟨b, zs, rfl, hb, t⟩ := VS.lst_ e.sub (VB.s hv)
    have e' : Ext Hf H Hf J := .forget S.sub e
    obtain ⟨g1, g2⟩ := e'.at_ e4 e3
    refine ⟨l, b, vs, zs, rfl, rfl, g1, hb, by rw [e5.length, t.length]; exact hz, ?_⟩
    exact q.nx _ _ Hf _ hk ((S.mono e').cell e1 h1 rfl e2 g2 rfl ⟨e2, g2, vs ++ zs, upd_same, e5.app (dva_flat t hfl)⟩)
theorem DvA.erase {K : PySem.W.Frag} {H : Hp} : ∀ {vs : List V} {ds : List D} (i : Nat), DvA K H vs ds → DvA K H (vs.eraseIdx i) (ds.eraseIdx i)
  | _, _, _, .nil => .nil
  | _, _, 0, .cons _ t => t
  | _, _, i + 1, .cons h t => .cons h (t.erase i)
theorem ds_apop {ix : Expr} {ci : CE} {y : Str} {j : Nat} (hN : X.N[i]? = some x) (hv : Vis X.env.scope x) (hd : (x == ("__debug__" : Str)) = false) (hc : (x == ("__classdict__" : Str)) = false)
    (hN2 : X.N[j]? = some y) (hv2 : Vis X.env.scope y) (hd2 : (y == ("__debug__" : Str)) = false) (hc2 : (y == ("__classdict__" : Str)) = false) {p p2 apos2 pos2 q : Pos} (he : PE X ix (LE X.K ct W true (fun er => rd G true er ci)))
    (hs : starEach [ix] X.env = (false, eval ix X.env) :: starEach [] X.env) (hl : (apos.endLine == pos.line) = true) (hl2 : (apos2.endLine == pos2.line) = true) :
    PS X (.Expr (.Call (.Attribute (.Name x p) "append" apos) [.Call (.Attribute (.Name y p2) "pop" apos2) [ix] [] pos2] [] pos) q) (LS X.K ct W (fun er => ws G er (.apop i j ci))) :=
  (ps_expr (pe_bm (T := "list") (id := "list.append") PySem.F.plainAttrs_list PySem.F.slot_list_append PySem.F.type_list_append mt_append (pe_var hN hv hd hc)
    (pa_cons (pe_bm (T := "list") (id := "list.pop") PySem.F.plainAttrs_list PySem.F.slot_list_pop PySem.F.type_list_pop mt_popAt (pe_var hN2 hv2 hd2 hc2) (pa_cons he pa_nil hs) rfl (by rw [hs]; rfl) hl2 hs rfl) pa_nil rfl) rfl rfl hl rfl rfl) rfl).weak fun D σ H ⟨Rf, RH, Hf, δ, er, E, S, qe, r, q⟩ => by
    dsimp only at r
    unfold ws at r
    obtain ⟨xs, ys, h1, h2, hij, hz, r⟩ := r
    obtain ⟨l, vs, e1, e2, e3, e4, e5⟩ := S.list h1
    obtain ⟨m, us, d1, d2, d3, d4, d5⟩ := S.list h2
    have hlm : l ≠ m := fun z => hij (S.sep i j _ _ l h1 h2 rfl rfl e1 (by rw [d1, z]))
    refine ⟨_, e1, .inl ⟨rfl, vs, .inl (.of e4)⟩, _, d1, .inl ⟨rfl, us, .inl (.of d4)⟩, Rf, RH, Hf, δ, _, er, S, S.ecs qe, r, fun d hd v Gf J e hv => ?_⟩
    obtain ⟨n, k, w, rfl, hn, hk, hw, hq⟩ := hd
    obtain ⟨g1, g2⟩ := e.at_ e4 e3
    obtain ⟨f1, f2⟩ := e.at_ d4 d3
    have t5 := d5.mono e.fz
    obtain ⟨u, w1, w2⟩ := t5.get hw
    refine ⟨m, us, n, k, u, rfl, by rw [hv.int_], f1, hn.1, hn.2, by rw [d5.length]; exact hk, w1, ?_⟩
    have S1 := (S.mono e).cell d1 h2 rfl d2 f2 rfl (s0 := .l (ys.eraseIdx k)) ⟨d2, f2, us.eraseIdx k, upd_same, t5.erase k⟩
    have h1' : (δ.set j (.l (ys.eraseIdx k)))[i]? = some (.l xs) := by rw [List.getElem?_set_ne (Ne.symm hij)]; exact h1
    have g1' : upd J m (.lst (us.eraseIdx k)) l = some (.lst vs) := by rw [upd_ne hlm]; exact g1
    refine ⟨l, vs, u, rfl, rfl, g1', by rw [e5.length, sizeLine_eq]; omega, ?_⟩
    exact q.nx _ _ Gf _ hq (S1.cell e1 h1' rfl e2 g2 rfl ⟨e2, g2, vs ++ [u], upd_same, (e5.mono e.fz).app (.cons w2 .nil)⟩)
theorem ds_put {ix : Expr} {ci : CE} (h : PS X st (tAsg (LE X.K ct W false (fun er => rd G false er ce)) (gSub (tVar i) (LE X.K ct W true (fun er => rd G true er ci)) rSetL))) : PS X st (LS X.K ct W (fun er => ws G er (.put i ci ce))) :=
  h.weak fun D σ H ⟨Rf, RH, Hf, δ, er, E, S, qe, r, q⟩ => by
    dsimp only at r
    unfold ws at r
    refine ⟨Rf, RH, Hf, δ, _, er, S, S.ecs qe, r, fun d hd v Gf J e hv => ?_⟩
    obtain ⟨xs, h1, r⟩ := hd
    have S1 := S.mono e
    obtain ⟨l, vs, e1, e2, e3, e4, e5⟩ := S1.list h1
    refine ⟨_, e1, Rf, RH, Gf, δ, _, er, S1, S1.ecs qe, r, fun d2 hd2 v2 Jf J2 e' hv2 => ?_⟩
    obtain ⟨n, j, rfl, hj, hk⟩ := hd2
    obtain ⟨g1, g2⟩ := e'.at_ e4 e3
    refine ⟨l, vs, n, j, rfl, by rw [hv2.int_], g1, by rw [e5.length]; exact hj, ?_⟩
    exact q.nx _ _ Jf _ hk ((S1.mono e').cell e1 h1 rfl e2 g2 rfl ⟨e2, g2, vs.set j v, upd_same, (e5.mono e'.fz).set j (Dv.mono e'.fz hv)⟩)
theorem ds_dput {ix : Expr} {ci : CE} (h : PS X st (sDPut (tVar i) (LE X.K ct W true (fun er => rd G true er ci)) (LE X.K ct W false (fun er => rd G false er ce)))) : PS X st (LS X.K ct W (fun er => ws G er (.dput i ci ce))) :=
  h.weak fun D σ H ⟨Rf, RH, Hf, δ, er, E, S, qe, r, q⟩ => by
    dsimp only at r
    unfold ws at r
    refine ⟨Rf, RH, Hf, δ, _, er, S, S.ecs qe, r, fun d hd v Gf J e hv => ?_⟩
    obtain ⟨kvs, h1, r⟩ := hd
    have S1 := S.mono e
    obtain ⟨l, vs, e1, e2, e3, e4, e5⟩ := S1.dict h1
    refine ⟨_, e1, Rf, RH, Gf, δ, _, er, S1, S1.ecs qe, r, fun d2 hd2 v2 Jf J2 e' hv2 => ?_⟩
    obtain ⟨key, rfl, hz, hk⟩ := hd2
    obtain ⟨g1, g2⟩ := e'.at_ e4 e3
    refine ⟨l, _, rfl, by rw [vs_key hv2]; exact DPut.k g1 (by rw [kv_len e5, sizeLine_eq]; omega), ?_⟩
    exact q.nx _ _ Jf _ hk ((S1.mono e').cell e1 h1 rfl e2 g2 rfl ⟨e2, g2, _, upd_same, kv_put (Dv.mono e'.fz hv) (KvA.mono e'.fz e5)⟩)
theorem ds_aug {op : Operator} {o : Bool} (h : PS X st (tAug i (LE X.K ct W true (fun er => rd G true er ce)) (ipI fun x n => if o = true then x + n else x - n))) : PS X st (LS X.K ct W (fun er => ws G er (.aug i o ce))) :=
  h.weak fun D σ H ⟨Rf, RH, Hf, δ, er, E, S, qe, r, q⟩ => by
    dsimp only at r
    unfold ws at r
    obtain ⟨x, h1, r⟩ := r
    obtain ⟨ov, e1, v, rfl, hv⟩ := S.get h1
    cases hv
    refine ⟨_, e1, Rf, RH, Hf, δ, _, er, S, S.ecs qe, r, fun d2 hd2 v2 Jf J2 e' hv2 => ?_⟩
    obtain ⟨n, rfl, hk⟩ := hd2
    exact ⟨x, n, rfl, hv2.int_, q.nx _ _ _ _ hk ((S.mono e').setD (.int _))⟩
theorem ds_exp {sh : Bool} (h : PS X st (tDrop (LE X.K ct W true (fun er => rd G true er ce)))) : PS X st (LS X.K ct W (fun er => ws G er (.exp ce))) :=
  h.weak fun D σ H ⟨Rf, RH, Hf, δ, er, E, S, qe, r, q⟩ => by
    dsimp only at r
    unfold ws at r
    exact ⟨Rf, RH, Hf, δ, _, er, S, S.ecs qe, r, fun d hd v Gf J e hv => q.nx _ _ _ _ hd (S.mono e)⟩
theorem ds_ifs {qc : CQ} {p r : List Stmt} {cp cr : CB} (hc : PT X c (LT X.K ct W (fun er => rq G er qc))) (ha : PSs X p (LS X.K ct W (fun er => wb G er cp))) (hb : PSs X r (LS X.K ct W (fun er => wb G er cr))) : PS X (.If c p r pos) (LS X.K ct W (fun er => ws G er (.ifs qc cp cr))) :=
  (ps_if hc ha hb).weak fun D σ H ⟨Rf, RH, Hf, δ, er, E, S, qe, r, q⟩ => by
    dsimp only at r
    unfold ws at r
    refine ⟨Rf, RH, Hf, δ, _, er, S, S.ecs qe, r, fun t ht Gf J e => ?_⟩
    cases t with
    | true => rw [if_pos rfl] at ht ⊢; exact ⟨Rf, RH, Gf, δ, er, E, S.mono e, qe, ht, q⟩
    | false => rw [if_neg Bool.false_ne_true] at ht ⊢; exact ⟨Rf, RH, Gf, δ, er, E, S.mono e, qe, ht, q⟩
theorem ds_ret (ha : PE X a (LE X.K ct W false (fun er => rd G false er ca))) : PS X (.Return (some a) pos) (LS X.K ct W (fun er => ws G er (.ret ca))) :=
  (ps_ret ha).weak fun D σ H ⟨Rf, RH, Hf, δ, er, E, S, qe, r, q⟩ => by
    dsimp only at r
    unfold ws at r
    exact ⟨Rf, RH, Hf, δ, _, er, S, S.ecs qe, r, fun d hd v Gf J e hv => q.rt _ _ _ _ hd (S.ext.trans e) hv⟩
theorem ds_retF (ha : PE X a (LN X.K ct W (fun er => rn G er ca))) : PS X (.Return (some a) pos) (LS X.K ct W (fun er => ws G er (.retF ca))) :=
  (ps_ret ha).weak fun D σ H ⟨Rf, RH, Hf, δ, er, E, S, qe, r, q⟩ => by
    dsimp only at r
    unfold ws at r
    refine ⟨Rf, RH, Hf, δ, _, er, S, S.ecs qe, r, fun ds hd l vs Gf J e h1 h2 h3 t => q.rf _ _ _ _ _ hd (S.ext.trans e) h1 h2 ?_ t⟩
    cases z : RH l with
    | none => rfl
    | some o => rw [S.ext.ex _ _ z] at h3; cases h3
theorem ds_retN : PS X (.Return none pos) (LS X.K ct W (fun er => ws G er .retN)) :=
  ps_retN.weak fun D σ H ⟨Rf, RH, Hf, δ, er, E, S, qe, r, q⟩ => by
    dsimp only at r
    unfold ws at r
    exact q.rt _ _ _ _ r S.ext .non
theorem ds_pass : PS X (.Pass pos) (LS X.K ct W (fun er => ws G er .pass)) :=
  ps_pass.weak fun D σ H ⟨Rf, RH, Hf, δ, er, E, S, qe, r, q⟩ => by
    dsimp only at r
    unfold ws at r
    exact q.nx _ _ _ _ r S
theorem ds_brk : PS X (.Break pos) (LS X.K ct W (fun er => ws G er .brk)) :=
  ps_break.weak fun D σ H ⟨Rf, RH, Hf, δ, er, E, S, qe, r, q⟩ => by
    dsimp only at r
    unfold ws at r
    exact q.bk _ _ _ _ r S
theorem ds_cnt : PS X (.Continue pos) (LS X.K ct W (fun er => ws G er .cnt)) :=
  ps_continue.weak fun D σ H ⟨Rf, RH, Hf, δ, er, E, S, qe, r, q⟩ => by
    dsimp only at r
    unfold ws at r
    exact q.ct _ _ _ _ r S
theorem ds_bad : PS X st (LS X.K ct W (fun er => ws G er .bad)) :=
  ps_never.weak fun D σ H ⟨Rf, RH, Hf, δ, er, E, S, qe, r, q⟩ => by
    dsimp only at r
    unfold ws at r
    exact r.elim
theorem dss_nil : PSs X [] (LS X.K ct W (fun er => wb G er .nil)) :=
  pss_nil.weak fun D σ H ⟨Rf, RH, Hf, δ, er, E, S, qe, r, q⟩ => by
    dsimp only at r
    unfold wb at r
    exact q.nx _ _ _ _ r S
theorem dss_cons {cs : CS} {cb : CB} {rest : List Stmt} (h1 : PS X st (LS X.K ct W (fun er => ws G er cs))) (h2 : PSs X rest (LS X.K ct W (fun er => wb G er cb))) : PSs X (st :: rest) (LS X.K ct W (fun er => wb G er (.cons cs cb))) :=
  (pss_cons h1 h2).weak fun D σ H ⟨Rf, RH, Hf, δ, er, E, S, qe, r, q⟩ => by
    dsimp only at r
    unfold wb at r
    exact ⟨Rf, RH, Hf, δ, er, _, S, qe, r, ⟨fun δ' σ' Gf J h S' => ⟨Rf, RH, Gf, δ', er, E, S', qe, h, q⟩, q.rt, q.bk, q.ct, q.rf⟩⟩
/-- the frozen part of the root may grow -/
structure Up (Rf RH Rg : Hp) : Prop where
  ex : Ex Rf Rg
  old : ∀ a, RH a ≠ none → Rg a = Rf a
theorem Up.ext {Rf RH Rg Gf J : Hp} (u : Up Rf RH Rg) (e : Ext Rg RH Gf J) : Ext Rf RH Gf J := ⟨e.ex, u.ex.trans e.fz, e.sub, fun a n => (e.old a n).trans (u.old a n)⟩
theorem Up.of {Rf RH Hf H : Hp} (e : Ext Rf RH Hf H) : Up Rf RH Hf := ⟨e.fz, e.old⟩
theorem Up.root {K : PySem.W.Frag} {Rf RH Hf H : Hp} {σ : L2.St} {δ : List Sl} (S : SD K Rf RH Hf H σ δ) : SD K Hf RH Hf H σ δ := ⟨⟨S.ext.ex, .refl _, S.ext.sub, fun _ _ => rfl⟩, S.len, S.at_, S.sep⟩
theorem Up.sd {K : PySem.W.Frag} {Rf RH Rg Gf J : Hp} {σ : L2.St} {δ : List Sl} (u : Up Rf RH Rg) (S : SD K Rg RH Gf J σ δ) : SD K Rf RH Gf J σ δ := ⟨u.ext S.ext, S.len, S.at_, S.sep⟩
theorem Up.ec {K : PySem.W.Frag} {Rf RH Rg : Hp} {σ : L2.St} {er : Er} (u : Up Rf RH Rg) (q : EC K ct W σ Rf RH er) : EC K ct W σ Rg RH er := fun c p h C =>
  ⟨fun fld v dx Gf J h1 h2 => (q c p h C).1 fld v dx Gf J h1 (u.ext h2), fun Gf J h1 h2 => (q c p h C).2 Gf J h1 (u.ext h2)⟩
theorem ds_for {iter : Expr} {body : List Stmt} {t : CT} {it : CI} {cb : CB} (hp : PassesOwn (model X.prog X.w) X.A X.env X.xe) (hc : X.calm = true) (hi : PI X tg iter (LI X.K ct W false (fun er => ri G false er it))) (hg : PG X tg (LG X.K t)) (hb : PSs X body (LS X.K ct W (fun er => wb G er cb)))
    (hs : ∀ x, foldedSetIterable iter X.env x = pure x) : PS X (.For tg iter body [] pos) (LS X.K ct W (fun er => ws G er (.for_ t it cb))) :=
  (ps_for hp hc hi hg hb hs).weak fun D σ H ⟨Rf, RH, Hf, δ, er, E, S, qe, r, q⟩ => by
    dsimp only at r
    unfold ws at r
    refine ⟨Rf, RH, Hf, δ, _, er, S, S.ecs qe, r, fun items ⟨Wd, w0, step, fin⟩ J Gf H1 e hJ => ?_⟩
    refine ⟨fun i m σ' H' => m = items.length - i ∧ i ≤ items.length ∧ ∃ (Jf : Hp) (δ' : List Sl), SD X.K Rf RH Jf H' σ' δ' ∧ Ex Gf Jf ∧ Wd i δ', ⟨_, rfl, Nat.zero_le _, Gf, δ, S.mono e, .refl _, w0⟩, ?_⟩
    rintro i m σ' H' ⟨rfl, hi, Jf, δ', S', ex, w1⟩
    obtain ⟨j1, j2⟩ := hJ Jf H' ⟨ex, S'.sub⟩
    by_cases hlt : i < items.length
    · refine .inr ⟨(j1 i items[i] (by simp [hlt])).1, fun σ'' H'' => i + 1 ≤ items.length ∧ ∃ (Kf : Hp) (δ'' : List Sl), SD X.K Rf RH Kf H'' σ'' δ'' ∧ Ex Gf Kf ∧ Wd (i + 1) δ'', fun σ'' H'' n => ⟨items.length - (i + 1), by omega, rfl, n⟩, fun x H2 hy => ?_⟩
      obtain ⟨Jf2, e2, hx⟩ := (j1 i items[i] (by simp [hlt])).2 x H2 hy
      have S2 := S'.mono e2
      have u := Up.of S2.ext
      refine ⟨Jf2, RH, Jf2, δ', _, _, (Up.root S2), hx, step i items[i] δ' (by simp [hlt]) w1, fun δ2 hδ σ2 S3 _ => ⟨Jf2, RH, Jf2, δ2, er, _, S3, fun σ => u.ec (qe σ), hδ, ?_⟩⟩
      have go : ∀ δ3 σ3 Kf K3, Wd (i + 1) δ3 → SD X.K Jf2 RH Kf K3 σ3 δ3 → i + 1 ≤ items.length ∧ ∃ (Kf : Hp) (δ'' : List Sl), SD X.K Rf RH Kf K3 σ3 δ'' ∧ Ex Gf Kf ∧ Wd (i + 1) δ'' := fun δ3 σ3 Kf K3 w3 S4 =>
        ⟨hlt, Kf, δ3, u.sd S4, (ex.trans e2.fz).trans S4.ext.fz, w3⟩
      exact ⟨go, fun d v Kf K3 h h2 hv => q.rt d v Kf K3 h (u.ext h2) hv, fun δ3 σ3 Kf K3 h S4 => q.nx _ _ _ _ h (u.sd S4), go, fun xs l vs Kf K3 h h2 h3 h4 h5 h6 => q.rf xs l vs Kf K3 h (u.ext h2) h3 h4 h5 h6⟩
    · have ei : i = items.length := by omega
      subst ei
      exact .inl ⟨j2 _ (Nat.le_refl _), q.nx _ _ _ _ (fin δ' w1) S'⟩
theorem ds_whl {qc : CQ} {body : List Stmt} {cb : CB} (hp : PassesOwn (model X.prog X.w) X.A X.env X.xe) (hc : PT X c (LT X.K ct W (fun er => rq G er qc))) (hb : PSs X body (LS X.K ct W (fun er => wb G er cb))) : PS X (.While c body [] pos) (LS X.K ct W (fun er => ws G er (.whl qc cb))) :=
  (ps_while hp hc hb).weak fun D σ H ⟨Rf, RH, Hf, δ, er, E, S, qe, r, q⟩ => by
    dsimp only at r
    unfold ws at r
    obtain ⟨Wd, μ, w0, step⟩ := r
    refine ⟨fun m σ' H' => ∃ (Jf : Hp) (δ' : List Sl), SD X.K Rf RH Jf H' σ' δ' ∧ m = μ δ' ∧ Wd δ', ⟨_, Hf, δ, S, rfl, w0⟩, ?_⟩
    rintro m σ' H' ⟨Jf, δ', S', rfl, w1⟩
    refine ⟨Rf, RH, Jf, δ', _, er, S', S'.ecs qe, step δ' w1, fun t ht Gf J e => ?_⟩
    have S2 := S'.mono e
    cases t with
    | false =>
      dsimp only at ht ⊢
      rw [if_neg Bool.false_ne_true] at ht ⊢
      exact q.nx _ _ _ _ ht S2
    | true =>
      dsimp only at ht ⊢
      rw [if_pos rfl] at ht ⊢
      have go : ∀ δ3 σ3 Kf K3, (Wd δ3 ∧ μ δ3 < μ δ') → SD X.K Rf RH Kf K3 σ3 δ3 → ∃ (Kf : Hp) (δ'' : List Sl), SD X.K Rf RH Kf K3 σ3 δ'' ∧ Wd δ'' ∧ μ δ'' < μ δ' := fun δ3 σ3 Kf K3 w3 S4 => ⟨Kf, δ3, S4, w3.1, w3.2⟩
      exact ⟨fun σ3 K3 => ∃ (Kf : Hp) (δ'' : List Sl), SD X.K Rf RH Kf K3 σ3 δ'' ∧ Wd δ'' ∧ μ δ'' < μ δ', fun σ3 K3 ⟨Kf, δ'', S4, w4, l4⟩ => ⟨_, l4, Kf, δ'', S4, rfl, w4⟩, Rf, RH, Gf, δ', er, _, S2, qe, ht, go, q.rt, fun δ3 σ3 Kf K3 h S4 => q.nx _ _ _ _ h S4, go, q.rf⟩
end
end FR

/-! FrK: does a written expression say what a term of the small language says? -/
namespace FR
open PySem L2

structure Cc where
  N : List Str
  sc : Scope
  cel : List Str
  bl : List Str
  df : List Str
  gls : List Str
structure CcOk (X : Cx) (G : Ctx) (ct : ErT) (W : WX) (C : Cc) : Prop where
  n : X.N = C.N
  nd : C.N.Nodup
  sc : X.env.scope = C.sc
  calm : X.calm = true
  gd : X.A.guards = some []
  un : X.A.units + 66 < cLine
  tk : Takes X W
  bl : ∀ x, C.bl.contains x = true → X.mg x = none
  df : ∀ x, C.df.contains x = true → DefOk X G ct x
  gls : ∀ x, C.gls.contains x = true → ∃ d v u, X.mg x = some u ∧ RelV v u ∧ G.gl x = some d ∧ ∀ H, Dv X.K H v d
  cel : ∀ x, C.cel.contains x = true → X.fn x = true

/-! ### views of the text -/
def vName : Expr → Option (Str × Pos)
  | .Name x p => some (x, p)
  | _ => none
def vConst : Expr → Option (Const × Nat × Pos)
  | .Constant c k p => some (c, k, p)
  | _ => none
def vBin : Expr → Option (Expr × Operator × Expr × Pos)
  | .BinOp a o b p => some (a, o, b, p)
  | _ => none
def vUn : Expr → Option (UnaryOp × Expr × Pos)
  | .UnaryOp o a p => some (o, a, p)
  | _ => none
def vCmp1 : Expr → Option (Expr × CmpOp × Expr × Pos)
  | .Compare a [o] [b] p => some (a, o, b, p)
  | _ => none
def vCmp2 : Expr → Option (Expr × CmpOp × CmpOp × Expr × Expr × Pos)
  | .Compare a [o, o'] [b, c] p => some (a, o, o', b, c, p)
  | _ => none
def vBool : Expr → Option (BoolOp × Expr × Expr × List Expr × Pos)
  | .BoolOp o (a :: b :: r) p => some (o, a, b, r, p)
  | _ => none
def vIf : Expr → Option (Expr × Expr × Expr × Pos)
  | .IfExp c a b p => some (c, a, b, p)
  | _ => none
def vTup : Expr → Option (List Expr × Nat × Pos)
  | .Tuple es k p => some (es, k, p)
  | _ => none
def vLst : Expr → Option (List Expr × Pos)
  | .List es p => some (es, p)
  | _ => none
def vSub : Expr → Option (Expr × Expr × Pos)
  | .Subscript a i p => some (a, i, p)
  | _ => none
def vSl : Expr → Option (Option Expr × Option Expr × Pos)
  | .Slice l h none p => some (l, h, p)
  | _ => none
def vCall : Expr → Option (Str × Pos × List Expr × List Keyword × Pos)
  | .Call (.Name x p) es ks q => some (x, p, es, ks, q)
  | _ => none
def vMth : Expr → Option (Expr × Str × Pos × List Expr × Pos)
  | .Call (.Attribute a m p) es [] q => some (a, m, p, es, q)
  | _ => none
def vLc : Expr → Option (Expr × Expr × Expr × List Expr × Scope × Pos)
  | .ListComp e [⟨t, i, fs, 0⟩] s p => some (e, t, i, fs, s, p)
  | _ => none
def vRev : Expr → Option Expr
  | .Subscript a (.Slice none none (some (.UnaryOp .USub (.Constant (.int 1) _ _) _)) _) _ => some a
  | _ => none
def vFs : Expr → Option (List Expr)
  | .JoinedStr l _ => some l
  | _ => none
def vFmt : Expr → Option Expr
  | .FormattedValue e (-1) none _ => some e
  | _ => none
theorem vRev_ {e a : Expr} (h : vRev e = some a) : ∃ k p1 p2 p3 p, e = .Subscript a (.Slice none none (some (.UnaryOp .USub (.Constant (.int 1) k p1) p2)) p3) p := by
  unfold vRev at h; split at h
  · cases h; exact ⟨_, _, _, _, _, rfl⟩
  · cases h
theorem vFs_ {e : Expr} {l : List Expr} (h : vFs e = some l) : ∃ p, e = .JoinedStr l p := by
  unfold vFs at h; split at h
  · cases h; exact ⟨_, rfl⟩
  · cases h
theorem vFmt_ {e a : Expr} (h : vFmt e = some a) : ∃ p, e = .FormattedValue a (-1) none p := by
  unfold vFmt at h; split at h
  · cases h; exact ⟨_, rfl⟩
  · cases h
theorem vName_ {e : Expr} {x p} (h : vName e = some (x, p)) : e = .Name x p := by
  unfold vName at h; split at h <;> simp_all
theorem vConst_ {e : Expr} {x k p} (h : vConst e = some (x, k, p)) : e = .Constant x k p := by
  unfold vConst at h; split at h <;> simp_all
theorem vBin_ {e : Expr} {a o b p} (h : vBin e = some (a, o, b, p)) : e = .BinOp a o b p := by
  unfold vBin at h; split at h <;> simp_all
theorem vUn_ {e : Expr} {o a p} (h : vUn e = some (o, a, p)) : e = .UnaryOp o a p := by
  unfold vUn at h; split at h <;> simp_all
theorem vCmp1_ {e : Expr} {a o b p} (h : vCmp1 e = some (a, o, b, p)) : e = .Compare a [o] [b] p := by
  unfold vCmp1 at h; split at h <;> simp_all
theorem vCmp2_ {e : Expr} {a o o' b c p} (h : vCmp2 e = some (a, o, o', b, c, p)) : e = .Compare a [o, o'] [b, c] p := by
  unfold vCmp2 at h; split at h <;> simp_all
theorem vBool_ {e : Expr} {o a b r p} (h : vBool e = some (o, a, b, r, p)) : e = .BoolOp o (a :: b :: r) p := by
  unfold vBool at h; split at h <;> simp_all
theorem vIf_ {e : Expr} {c a b p} (h : vIf e = some (c, a, b, p)) : e = .IfExp c a b p := by
  unfold vIf at h; split at h <;> simp_all
theorem vTup_ {e : Expr} {es k p} (h : vTup e = some (es, k, p)) : e = .Tuple es k p := by
  unfold vTup at h; split at h <;> simp_all
theorem vLst_ {e : Expr} {es p} (h : vLst e = some (es, p)) : e = .List es p := by
  unfold vLst at h; split at h <;> simp_all
theorem vSub_ {e : Expr} {a i p} (h : vSub e = some (a, i, p)) : e = .Subscript a i p := by
  unfold vSub at h; split at h <;> simp_all
theorem vSl_ {e : Expr} {l h' p} (h : vSl e = some (l, h', p)) : e = .Slice l h' none p := by
  unfold vSl at h; split at h <;> simp_all
theorem vCall_ {e : Expr} {x p es ks q} (h : vCall e = some (x, p, es, ks, q)) : e = .Call (.Name x p) es ks q := by
  unfold vCall at h; split at h <;> simp_all
theorem vMth_ {e : Expr} {a m p es q} (h : vMth e = some (a, m, p, es, q)) : e = .Call (.Attribute a m p) es [] q := by
  unfold vMth at h; split at h <;> simp_all
theorem vLc_ {e : Expr} {el t i fs s p} (h : vLc e = some (el, t, i, fs, s, p)) : e = .ListComp el [⟨t, i, fs, 0⟩] s p := by
  unfold vLc at h; split at h <;> simp_all

def plainE : Expr → Bool
  | .Starred _ _ => false
  | .Slice _ _ _ _ => false
  | .Set _ _ _ => false
  | _ => true
/-- not a call of super by its name alone -/
def noSup : Expr → Bool
  | .Call (.Name _ _) [] [] _ => false
  | _ => true
/-- a test that is seen as a value -/
def plainT : Expr → Bool
  | .UnaryOp .Not _ _ => false
  | .BoolOp _ _ _ => false
  | .IfExp _ _ _ _ => false
  | .Compare _ _ _ _ => false
  | _ => true
theorem plain_star {e : Expr} (h : plainE e = true) : ∀ x p, e ≠ .Starred x p := fun x p z => by subst z; cases h
theorem plain_ix {e : Expr} (h : plainE e = true) : PlainIx e := by
  intro o i
  cases e <;> first | rfl | cases h
theorem plain_beh {e : Expr} (h : plainE e = true) (op : CmpOp) : behindInMarks op e = false := by
  cases e <;> first | rfl | cases h
theorem plain_fold {e : Expr} (h : plainE e = true) (env : Env) : ∀ x, foldedSetIterable e env x = pure x := by
  intro x
  cases e <;> first | rfl | cases h
theorem noSup_base {e : Expr} (h : noSup e = true) (m : Str) (env : Env) : attributeBase e m env (eval e env) = eval e env := by
  unfold attributeBase
  split
  · cases h
  · rfl
theorem plainT_ok {e : Expr} (h : plainT e = true) (env : Env) : ∀ whole, isTrue e env whole = (do let v ← whole; standAt e.pos; holding [v] (truthy v)) := by
  intro whole
  cases e with
  | UnaryOp o a p => cases o <;> first | rfl | cases h
  | BoolOp o a p => cases h
  | IfExp a b c p => cases h
  | Compare a b c p => cases h
  | _ => rfl
theorem star1 {e : Expr} (h : plainE e = true) (es : List Expr) (env : Env) : starEach (e :: es) env = (false, eval e env) :: starEach es env := starEach_cons (plain_star h)
theorem plains {es : List Expr} (h : es.all plainE = true) : ∀ e ∈ es, ∀ y q, e ≠ .Starred y q := fun e he => plain_star (List.all_eq_true.mp h e he)

/-! ### names of the library -/
def BF.nm : BF → Str
  | .len => "len" | .int => "int" | .abs => "abs" | .max => "max" | .min => "min" | .sum => "sum" | .all => "all" | .any => "any" | .sorted => "sorted" | .tuple => "tuple"
  | .list => "list" | .str => "str" | .ord => "ord" | .repr => "repr" | .bool => "bool"
theorem BF.boot (f : BF) : bootBuiltins f.nm = some f.val ∧ f.nm ≠ "__name__" ∧ (f.nm == ("__debug__" : Str)) = false := by
  cases f <;> decide +kernel
def tyTab : List (Str × String) := [("int", "int"), ("str", "str"), ("bool", "bool"), ("list", "list"), ("tuple", "tuple"), ("dict", "dict")]
def tyOf (x : Str) : Option String := tyTab.lookup x
theorem tyTab_ok : (tyTab.all fun p => decide (bootBuiltins p.1 = some (.type p.2)) && decide (p.1 ≠ "__name__") && decide ((p.1 == ("__debug__" : Str)) = false) && kindsB.contains p.2) = true := by decide +kernel
theorem lookup_mem {α β : Type} [BEq α] [LawfulBEq α] {x : α} {y : β} : ∀ {l : List (α × β)}, l.lookup x = some y → (x, y) ∈ l
  | [], h => by simp at h
  | (a, b) :: l, h => by
    rw [List.lookup_cons] at h
    split at h
    · rename_i e
      have := eq_of_beq e
      subst this
      cases h
      exact List.mem_cons_self
    · exact List.mem_cons_of_mem _ (lookup_mem h)
theorem tyOf_ok {x : Str} {T : String} (h : tyOf x = some T) : bootBuiltins x = some (.type T) ∧ x ≠ "__name__" ∧ (x == ("__debug__" : Str)) = false ∧ kindsB.contains T = true := by
  have := List.all_eq_true.mp tyTab_ok _ (lookup_mem h)
  simp only [Bool.and_eq_true, decide_eq_true_eq] at this
  exact ⟨this.1.1.1, this.1.1.2, this.1.2, this.2⟩
theorem MF.slot (m : MF) : Slot "str" m.nm m.id ∧ typeOf (.builtin m.id) = pure (.type "method_descriptor") := by
  cases m
  · exact ⟨PySem.F.slot_str_split, PySem.F.type_str_split⟩
  · exact ⟨PySem.F.slot_str_split, PySem.F.type_str_split⟩
  · exact ⟨PySem.F.slot_str_join, PySem.F.type_str_join⟩
  · exact ⟨PySem.F.slot_str_partition, PySem.F.type_str_partition⟩
  · exact ⟨PySem.F.slot_str_rpartition, PySem.F.type_str_rpartition⟩
  · exact ⟨PySem.F.slot_str_find, PySem.F.type_str_find⟩
  · exact ⟨PySem.F.slot_str_rfind, PySem.F.type_str_rfind⟩
  · exact ⟨PySem.F.slot_str_count, PySem.F.type_str_count⟩
  · exact ⟨PySem.F.slot_str_startswith, PySem.F.type_str_startswith⟩
  · exact ⟨PySem.F.slot_str_endswith, PySem.F.type_str_endswith⟩
  · exact ⟨PySem.F.slot_str_strip, PySem.F.type_str_strip⟩
end FR

/-! FrL: the look at the written text, and that it is sound -/
namespace FR
open PySem L2

def opOf : BO → Operator
  | .add => .Add | .sub => .Sub | .mul => .Mult | .mod => .Mod | .fdiv => .FloorDiv | .pow => .Pow
def coOf : CO → CmpOp
  | .eq => .Eq | .ne => .NotEq | .lt => .Lt | .le => .LtE | .gt => .Gt | .ge => .GtE | .isN => .Is | .notN => .IsNot | .mem => .In | .nmem => .NotIn
def litIs : Lit → Const → Bool
  | .non, .none => true
  | .bl b, .bool c => b == c
  | .int i, .int j => i == j
  | .str x, .str y => x == y
  | _, _ => false
def visB (sc : Scope) (x : Str) : Bool := match sc.names.lookup x with
  | some .local => true
  | some .cell => true
  | some .free => true
  | _ => false
def glB (C : Cc) (x : Str) : Bool := C.sc.names.lookup x == some .globalImplicit
def locB (C : Cc) (x : Str) : Bool := match C.sc.names.lookup x with
  | some .local => true
  | some .cell => C.cel.contains x
  | _ => false
def varB (C : Cc) (i : Nat) (x : Str) : Bool := C.N[i]? == some x && visB C.sc x && !(x == ("__debug__" : Str)) && !(x == ("__classdict__" : Str))
def bltB (C : Cc) (x : Str) : Bool := glB C x && C.bl.contains x
/-- the context of a comprehension's block -/
def Cc.blk (C : Cc) (s : Scope) : Cc := { C with sc := relS s C.sc, cel := (s.names.filter fun p => s.names.lookup p.1 == some .cell).map (·.1) }
def ckT (C : Cc) : CT → Expr → Bool
  | .v i, e => match vName e with
    | some (x, _) => C.N[i]? == some x && locB C x
    | none => false
  | .t is, e => match vTup e with
    | some (es, _, _) => go is es
    | none => false
where go : List Nat → List Expr → Bool
  | [], [] => true
  | i :: is, e :: es => (match vName e with
    | some (x, _) => C.N[i]? == some x && locB C x
    | none => false) && go is es
  | _, _ => false
def tysOf : List Expr → Option (List (Str × String))
  | [] => some []
  | e :: es => match vName e, tysOf es with
    | some (x, _), some r => match tyOf x with
      | some T => some ((x, T) :: r)
      | none => none
    | _, _ => none
def kwsB (kws : List Keyword) (ks : List Str) : Bool := kws.map (·.arg) == ks.map some
def isCmpE : CE → Bool
  | .cmp _ _ _ => true
  | .din _ _ _ => true
  | _ => false
def isChnE : CE → Bool
  | .chn _ _ _ _ _ => true
  | _ => false
def isStrE : CE → Bool
  | .lit (.str _) => true
  | _ => false
mutual
def ckE : CE → Cc → Expr → Bool
  | .var i, C, e => match vName e with
    | some (x, _) => varB C i x
    | none => false
  | .lit l, _, e => match vConst e with
    | some (c, _, _) => litIs l c
    | none => false
  | .glb x, C, e => match vName e with
    | some (y, _) => x == y && glB C x && C.gls.contains x && !(x == ("__debug__" : Str))
    | none => false
  | .bin o a b, C, e => match vBin e with
    | some (ea, op, eb, _) => op == opOf o && ckE a C ea && ckE b C eb
    | none => false
  | .neg a, C, e => match vUn e with
    | some (o, ea, _) => o == .USub && ckE a C ea
    | none => false
  | .cmp o a b, C, e => match vCmp1 e with
    | some (ea, op, eb, _) => op == coOf o && !behindInMarks op eb && ckE a C ea && ckE b C eb
    | none => false
  | .chn o p a b c, C, e => match vCmp2 e with
    | some (ea, op, op', eb, ec, _) => op == coOf o && op' == coOf p && !lastMarks [op, op'] [eb, ec] && ckE a C ea && ckE b C eb && ckE c C ec
    | none => false
  | .and a b, C, e => match vBool e with
    | some (o, ea, eb, r, p) => o == .And && ckE a C ea && ckE b C (if r.isEmpty then eb else .BoolOp .And (eb :: r) p)
    | none => false
  | .or a b, C, e => match vBool e with
    | some (o, ea, eb, r, p) => o == .Or && ckE a C ea && ckE b C (if r.isEmpty then eb else .BoolOp .Or (eb :: r) p)
    | none => false
  | .not a, C, e => match vUn e with
    | some (o, ea, _) => o == .Not && ckE a C ea
    | none => false
  | .ite q a b, C, e => match vIf e with
    | some (ec, ea, eb, _) => ckQ q C ec && ckE a C ea && ckE b C eb
    | none => false
  | .tup es, C, e => match vTup e with
    | some (l, _, _) => ckL es C l
    | none => false
  | .lst es, C, e => match vLst e with
    | some (l, _) => ckL es C l
    | none => false
  | .idx a i, C, e => match vSub e with
    | some (ea, ei, _) => plainE ei && ckE a C ea && ckE i C ei
    | none => false
  | .slc a l h, C, e => match vSub e with
    | some (ea, ei, _) => match vSl ei with
      | some (el, eh, _) => ckE a C ea && ckP l C el && ckP h C eh
      | none => false
    | none => false
  | .blt f es, C, e => match vCall e with
    | some (x, _, l, [], _) => x == f.nm && bltB C x && l.all plainE && !l.isEmpty && ckL es C l
    | _ => false
  | .mth m a es, C, e => match vMth e with
    | some (ea, nm, ap, l, p) => nm == m.nm && noSup ea && ap.endLine == p.line && ckE a C ea && l.all plainE && decide (l.length ≤ 1) && ckL es C l
    | none => false
  | .isi a ts, C, e => match vCall e with
    | some (x, _, [ea, et], [], _) => x == ("isinstance" : Str) && bltB C x && plainE ea && ckE a C ea && (match vTup et with
      | some (l, _, _) => (match tysOf l with
        | some r => r.map (·.2) == ts && decide (r.length ≤ 20) && r.all fun q => bltB C q.1
        | none => false)
      | none => match vName et with
        | some (y, _) => (match tyOf y with
          | some T => ts == [T] && bltB C y
          | none => false)
        | none => false)
    | _ => false
  | .call f es ks ws, C, e => match vCall e with
    | some (x, _, l, kws, _) => x == f && glB C x && C.df.contains x && !(x == ("__debug__" : Str)) && l.all plainE && kwsB kws ks && ckL es C l && ckK ws C kws
    | none => false
  | .dget i k, C, e => match vSub e with
    | some (ed, ek, _) => match vName ed with
      | some (x, _) => varB C i x && plainE ek && ckE k C ek
      | none => false
    | none => false
  | .dgtd i k d, C, e => match vMth e with
    | some (eo, nm, ap, [ek, ed], p) => match vName eo with
      | some (x, _) => nm == ("get" : Str) && varB C i x && ap.endLine == p.line && plainE ek && plainE ed && ckE k C ek && ckE d C ed
      | none => false
    | _ => false
  | .din neg k i, C, e => match vCmp1 e with
    | some (ek, op, ed, _) => match vName ed with
      | some (x, _) => op == (if neg = true then .NotIn else .In) && varB C i x && ckE k C ek
      | none => false
    | none => false
  | .dsrt i, C, e => match vCall e with
    | some (f, _, [ed], [], _) => match vName ed with
      | some (x, _) => f == ("sorted" : Str) && bltB C f && varB C i x
      | none => false
    | _ => false
  | .lc own tg it fs el, C, e => match vLc e with
    | some (eel, et, ei, efs, s, _) => ckI it C et ei && plainE ei && blkC C.N C.sc s (own.map fun i => (C.N.getD i ⟨#[]⟩, i)) && tg.ixs.all own.contains && ckT (C.blk s) tg et && ckG fs (C.blk s) efs && ckE el (C.blk s) eel
    | none => false
  | .rev a, C, e => match vRev e with
    | some ea => ckE a C ea
    | none => false
  | .fs es, C, e => match vFs e with
    | some l => decide (2 ≤ l.length) && ckF es C l
    | none => false
  | .lix a b, C, e => match vMth e with
    | some (ea, nm, ap, [eb], p) => nm == ("index" : Str) && noSup ea && ap.endLine == p.line && plainE eb && ckE a C ea && ckE b C eb
    | _ => false
  | .tvar i, C, e => match vName e with
    | some (x, _) => varB C i x
    | none => false
  | .tix i b, C, e => match vMth e with
    | some (eo, nm, ap, [eb], p) => match vName eo with
      | some (x, _) => nm == ("index" : Str) && varB C i x && ap.endLine == p.line && plainE eb && ckE b C eb
      | none => false
    | _ => false
  | .tupN a, C, e => match vCall e with
    | some (x, _, [ea], [], _) => x == ("tuple" : Str) && bltB C x && plainE ea && ckE a C ea
    | _ => false
  | .lend _ a, C, e => ckE a C e
def ckF : CL → Cc → List Expr → Bool
  | .nil, _, l => l.isEmpty
  | .cons a r, C, l => match l with
    | e :: es => (match vFmt e with
      | some e' => ckE a C e'
      | none => isStrE a && ckE a C e) && ckF r C es
    | [] => false
  | .star _ _, _, _ => false
def ckQ : CQ → Cc → Expr → Bool
  | .v a, C, e => (plainT e || (isCmpE a && (vCmp1 e).isSome) || (isChnE a && (vCmp2 e).isSome)) && ckE a C e
  | .and a b, C, e => match vBool e with
    | some (o, ea, eb, r, p) => o == .And && ckQ a C ea && ckQ b C (if r.isEmpty then eb else .BoolOp .And (eb :: r) p)
    | none => false
  | .or a b, C, e => match vBool e with
    | some (o, ea, eb, r, p) => o == .Or && ckQ a C ea && ckQ b C (if r.isEmpty then eb else .BoolOp .Or (eb :: r) p)
    | none => false
  | .not a, C, e => match vUn e with
    | some (o, ea, _) => o == .Not && ckQ a C ea
    | none => false
def ckG : CG → Cc → List Expr → Bool
  | .no, _, l => l.isEmpty
  | .some q, C, l => match l with
    | [e] => ckQ q C e
    | _ => false
def ckL : CL → Cc → List Expr → Bool
  | .nil, _, l => l.isEmpty
  | .cons a r, C, l => match l with
    | e :: es => plainE e && ckE a C e && ckL r C es
    | [] => false
  | .star a r, C, l => match l with
    | .Starred e _ :: es => ckE a C e && ckL r C es
    | _ => false
def ckK : CL → Cc → List Keyword → Bool
  | .nil, _, l => l.isEmpty
  | .cons a r, C, l => match l with
    | ⟨_, e, _⟩ :: es => ckE a C e && ckK r C es
    | [] => false
  | .star _ _, _, _ => false
def ckP : CP → Cc → Option Expr → Bool
  | .no, _, o => o.isNone
  | .some a, C, o => match o with
    | some e => ckE a C e
    | none => false
def ckI : CI → Cc → Expr → Expr → Bool
  | .e a, C, _, e => ckE a C e
  | .rng1 a, C, _, e => match vCall e with
    | some (f, _, [ea], [], _) => f == ("range" : Str) && bltB C f && plainE ea && ckE a C ea
    | _ => false
  | .rng2 a b, C, _, e => match vCall e with
    | some (f, _, [ea, eb], [], _) => f == ("range" : Str) && bltB C f && plainE ea && plainE eb && ckE a C ea && ckE b C eb
    | _ => false
  | .rngd a b, C, _, e => match vCall e with
    | some (f, _, [ea, eb, ec], [], _) => f == ("range" : Str) && bltB C f && plainE ea && plainE eb && ckE a C ea && ckE b C eb && (match vUn ec with
      | some (o, e1, _) => o == .USub && (match vConst e1 with
        | some (c, _, _) => c == .int 1
        | none => false)
      | none => false)
    | _ => false
  | .enum a, C, t, e => match vCall e with
    | some (f, _, [ea], [], _) => f == ("enumerate" : Str) && bltB C f && plainE ea && (vTup t).isSome && ckE a C ea
    | _ => false
  | .zip a b, C, t, e => match vCall e with
    | some (f, _, [ea, eb], [], _) => f == ("zip" : Str) && bltB C f && plainE ea && plainE eb && (vTup t).isSome && ckE a C ea && ckE b C eb
    | _ => false
end
end FR

/-! FrM: the look is sound -/
namespace FR
open PySem L2

section
variable {X : Cx} {G : Ctx} {ct : ErT} {W : WX} {C : Cc}
theorem visB_ok (c : CcOk X G ct W C) {x : Str} (h : visB C.sc x = true) : Vis X.env.scope x := by
  unfold Vis
  rw [c.sc]
  unfold visB at h
  split at h
  · exact .inl ‹_›
  · exact .inr (.inl ‹_›)
  · exact .inr (.inr ‹_›)
  · cases h
theorem glB_ok (c : CcOk X G ct W C) {x : Str} (h : glB C x = true) : Gl X x := by
  show X.env.scope.names.lookup x = _
  rw [c.sc]
  exact eq_of_beq h
theorem bltB_ok (c : CcOk X G ct W C) {x : Str} (h : bltB C x = true) : Gl X x ∧ X.mg x = none := by
  unfold bltB at h
  rw [Bool.and_eq_true] at h
  exact ⟨glB_ok c h.1, c.bl x h.2⟩
theorem locB_ok (c : CcOk X G ct W C) {x : Str} (h : locB C x = true) : L2.Loc X.env.scope x ∧ (X.fn x = true ∨ X.env.scope.names.lookup x = some .local) := by
  unfold L2.Loc
  rw [c.sc]
  unfold locB at h
  split at h
  · exact ⟨.inl ‹_›, .inr ‹_›⟩
  · exact ⟨.inr ‹_›, .inl (c.cel x h)⟩
  · cases h
theorem varB_ok (c : CcOk X G ct W C) {x : Str} {i : Nat} (h : varB C i x = true) : X.N[i]? = some x ∧ Vis X.env.scope x ∧ (x == ("__debug__" : Str)) = false ∧ (x == ("__classdict__" : Str)) = false := by
  unfold varB at h
  simp only [Bool.and_eq_true, Bool.not_eq_true'] at h
  obtain ⟨⟨⟨h1, h2⟩, h3⟩, h4⟩ := h
  exact ⟨by rw [c.n]; exact eq_of_beq h1, visB_ok c h2, h3, h4⟩
theorem ckT_go (c : CcOk X G ct W C) : ∀ {is : List Nat} {es : List Expr}, ckT.go C is es = true → PGs X es (LGs X.K is) ∧ (assignEach es X.env).length = is.length ∧ (assignEach es X.env).findIdx? (·.1) = none
  | [], [], _ => ⟨dgs_nil, rfl, rfl⟩
  | [], _ :: _, h => by simp [ckT.go] at h
  | _ :: _, [], h => by simp [ckT.go] at h
  | i :: is, e :: es, h => by
    rw [ckT.go, Bool.and_eq_true] at h
    obtain ⟨h1, h2⟩ := h
    obtain ⟨r1, r2, r3⟩ := ckT_go c h2
    split at h1
    · rename_i x p hv
      have := vName_ hv
      subst this
      rw [Bool.and_eq_true] at h1
      obtain ⟨l1, l2⟩ := locB_ok c h1.2
      refine ⟨dgs_cons (by rw [c.n]; exact c.nd) (by rw [c.n]; exact eq_of_beq h1.1) l1 l2 r1, ?_, ?_⟩
      · show (assignEach es X.env).length + 1 = is.length + 1
        rw [r2]
      · show ((false, assign (.Name x p) X.env) :: assignEach es X.env).findIdx? (·.1) = none
        rw [List.findIdx?_cons, r3]
        rfl
    · cases h1
theorem ckT_ok (c : CcOk X G ct W C) {t : CT} {e : Expr} (h : ckT C t e = true) : PG X e (LG X.K t) := by
  cases t with
  | v i =>
    rw [ckT] at h
    split at h
    · rename_i x p hv
      have := vName_ hv
      subst this
      rw [Bool.and_eq_true] at h
      obtain ⟨l1, l2⟩ := locB_ok c h.2
      exact dg_v (by rw [c.n]; exact c.nd) (by rw [c.n]; exact eq_of_beq h.1) l1 l2
    · cases h
  | t is =>
    rw [ckT] at h
    split at h
    · rename_i es k p hv
      have := vTup_ hv
      subst this
      obtain ⟨r1, r2, r3⟩ := ckT_go c h
      exact dg_t c.calm r1 r2 r3
    · cases h
theorem tysOf_ok (c : CcOk X G ct W C) : ∀ {es : List Expr} {r : List (Str × String)}, tysOf es = some r → (r.all fun q => bltB C q.1) = true → PA X es (fun _ H Q => Q (r.map (V.ty ·.2)) H) ∧ (r.map (·.2)).all kindsB.contains = true
  | [], r, h, _ => by
    simp only [tysOf, Option.some.injEq] at h
    subst h
    exact ⟨pa_nil.weak fun _ _ _ q => q, rfl⟩
  | e :: es, r, h, hb => by
    rw [tysOf] at h
    split at h
    · rename_i x p r' hv hr
      split at h
      · rename_i T hT
        cases h
        rw [List.all_cons, Bool.and_eq_true] at hb
        obtain ⟨q1, q2⟩ := tysOf_ok c hr hb.2
        obtain ⟨b1, b2⟩ := bltB_ok c hb.1
        obtain ⟨t1, t2, t3, t4⟩ := tyOf_ok hT
        have := vName_ hv
        subst this
        refine ⟨(pa_cons (pe_tyn b1 b2 t1 t2 t3) q1 rfl).weak fun _ _ _ q => q, ?_⟩
        rw [List.map_cons, List.all_cons, Bool.and_eq_true]
        exact ⟨t4, q2⟩
      · cases h
    · cases h
theorem shAny {e : Expr} {ce : CE} (hv : ∀ i, ce ≠ .var i) (h : PE X e (LE X.K ct W false (fun er => rd G false er ce))) (sh : Bool) : PE X e (LE X.K ct W sh (fun er => rd G sh er ce)) := by
  have q : (fun er => rd G sh er ce) = fun er => rd G false er ce := by
    funext er δ k
    cases ce <;> first | exact absurd rfl (hv _) | (unfold rd; rfl)
  rw [q]
  exact pe_up h sh
theorem CcOk.blk (c : CcOk X G ct W C) (s0 : Shared) (H : Hp) (scope : Scope) (D : Addr) (cl : List (Str × Addr)) (fp : List Addr) : CcOk (X.blk s0 H scope (compEnvC scope cl D X.env) fp) G ct (fun _ _ _ _ => False) (C.blk scope) where
  n := c.n
  nd := c.nd
  sc := by
    show relS scope X.env.scope = relS scope C.sc
    rw [c.sc]
  calm := c.calm
  gd := c.gd
  un := c.un
  tk := fun _ _ ⟨_, _, _, _, _, _, _, _, _, _, _, _, _, _, _, _, w⟩ => w.elim
  bl := c.bl
  df := fun x h => ⟨(c.df x h).ex⟩
  gls := c.gls
  cel := fun x h => by
    have h : ((scope.names.filter fun p => scope.names.lookup p.1 == some .cell).map (·.1)).contains x = true := h
    rw [List.contains_iff_mem, List.mem_map] at h
    obtain ⟨p, hp, rfl⟩ := h
    exact (List.mem_filter.mp hp).2
theorem lit_ok {l : Lit} {c : Const} {k : Nat} {p : Pos} (h : litIs l c = true) : PE X (.Constant c k p) (tC l.v) := by
  unfold litIs at h
  split at h
  · exact pe_non
  · cases eq_of_beq h; exact pe_bl
  · cases eq_of_beq h; exact pe_int
  · cases eq_of_beq h; exact pe_str
  · cases h
theorem op_binR (o : BO) : OpR X (binaryOp (opOf o)) (R2D X.K (binC o)) := by
  cases o
  · exact op_addD
  · exact op_subD
  · exact op_mulD
  · exact op_modD
  · exact op_fdivD
  · exact op_powD
end
end FR

/-! FrN: the look at expressions is sound -/
namespace FR
open PySem L2

section
variable {G : Ctx} {ct : ErT}
theorem op_cmpR {X : Cx} (hu : X.A.units + 66 < cLine) (o : CO) : OpR X (compareOp (coOf o)) (R2D X.K (cmpC o)) := by
  cases o
  · exact op_eqD' (by omega)
  · exact op_neD' (by omega)
  · exact op_ltD
  · exact op_leD
  · exact op_gtD
  · exact op_geD
  · exact op_isND
  · exact op_notND
  · exact op_inD' (by omega)
  · exact op_notInD' (by omega)
theorem cmp_bool (o : CO) (d e : D) (k : KD) (h : cmpC o d e k) : cmpC o d e fun z => ∃ t, z = .bool t ∧ k z := by
  cases o
  · exact ⟨h.1, _, rfl, h.2⟩
  · exact ⟨h.1, _, rfl, h.2⟩
  · show ltC d e _
    replace h : ltC d e k := h
    unfold ltC at h ⊢
    split at h
    · exact ⟨_, rfl, h⟩
    · exact ⟨_, rfl, h⟩
    · exact h.elim
  · show leC d e _
    replace h : leC d e k := h
    unfold leC at h ⊢
    split at h
    · exact ⟨_, rfl, h⟩
    · exact h.elim
  · show gtC d e _
    replace h : gtC d e k := h
    unfold gtC at h ⊢
    split at h
    · exact ⟨_, rfl, h⟩
    · exact h.elim
  · show geC d e _
    replace h : geC d e k := h
    unfold geC at h ⊢
    split at h
    · exact ⟨_, rfl, h⟩
    · exact h.elim
  · exact ⟨h.1, _, rfl, h.2⟩
  · exact ⟨h.1, _, rfl, h.2⟩
  · show inC false d e _
    replace h : inC false d e k := h
    unfold inC at h ⊢
    split at h
    · exact ⟨h.1, _, rfl, h.2⟩
    · exact ⟨h.1, _, rfl, h.2⟩
    · obtain ⟨c, h1, h2⟩ := h; exact ⟨c, h1, _, rfl, h2⟩
    · exact h.elim
  · show inC true d e _
    replace h : inC true d e k := h
    unfold inC at h ⊢
    split at h
    · exact ⟨h.1, _, rfl, h.2⟩
    · exact ⟨h.1, _, rfl, h.2⟩
    · obtain ⟨c, h1, h2⟩ := h; exact ⟨c, h1, _, rfl, h2⟩
    · exact h.elim

/-- what is to be shown of a term -/
def OkE (G : Ctx) (ct : ErT) (ce : CE) : Prop := ∀ {X : Cx} {W : WX} {C : Cc} {e : Expr}, CcOk X G ct W C → ckE ce C e = true → ∀ sh, PE X e (LE X.K ct W sh (fun er => rd G sh er ce))
def OkQ (G : Ctx) (ct : ErT) (q : CQ) : Prop := ∀ {X : Cx} {W : WX} {C : Cc} {e : Expr}, CcOk X G ct W C → ckQ q C e = true → PT X e (LT X.K ct W (fun er => rq G er q))
def OkG (G : Ctx) (ct : ErT) (q : CG) : Prop := ∀ {X : Cx} {W : WX} {C : Cc} {e : List Expr}, CcOk X G ct W C → ckG q C e = true → PTs X e (LT X.K ct W (fun er => rg G er q))
def OkL (G : Ctx) (ct : ErT) (cl : CL) : Prop := ∀ {X : Cx} {W : WX} {C : Cc} {e : List Expr}, CcOk X G ct W C → ckL cl C e = true → ∀ sh, PA X e (LA X.K ct W sh (fun er => rl G sh er cl))
def OkK (G : Ctx) (ct : ErT) (cl : CL) : Prop := ∀ {X : Cx} {W : WX} {C : Cc} {e : List Keyword}, CcOk X G ct W C → ckK cl C e = true → ∀ sh, PK X e (LA X.K ct W sh (fun er => rl G sh er cl))
def OkP (G : Ctx) (ct : ErT) (p : CP) : Prop := ∀ {X : Cx} {W : WX} {C : Cc} {e : Option Expr}, CcOk X G ct W C → ckP p C e = true → PO X e (LO X.K ct W (fun er => rp G er p))
def OkI (G : Ctx) (ct : ErT) (i : CI) : Prop := ∀ {X : Cx} {W : WX} {C : Cc} {t e : Expr}, CcOk X G ct W C → ckI i C t e = true → ∀ sh, PI X t e (LI X.K ct W sh (fun er => ri G sh er i))

def OkF (G : Ctx) (ct : ErT) (cl : CL) : Prop := ∀ {X : Cx} {W : WX} {C : Cc} {es : List Expr}, CcOk X G ct W C → ckF cl C es = true → ∃ ts, FJ X G ct W es cl ts
theorem ok_var {i : Nat} : OkE G ct (.var i) := fun {X W C e} c h sh => by
  rw [ckE] at h
  split at h
  · rename_i x p hv
    have := vName_ hv
    subst this
    obtain ⟨h1, h2, h3, h4⟩ := varB_ok c h
    exact de_var h1 h2 h3 h4
  · cases h
theorem ok_lit {l : Lit} : OkE G ct (.lit l) := fun {X W C e} c h sh => by
  rw [ckE] at h
  split at h
  · rename_i x k p hv
    have := vConst_ hv
    subst this
    exact shAny (fun _ z => by cases z) (de_lit (lit_ok h) fun H => l.dv) sh
  · cases h
theorem ok_glb {x : Str} : OkE G ct (.glb x) := fun {X W C e} c h sh => by
  rw [ckE] at h
  split at h
  · rename_i y p hv
    have := vName_ hv
    subst this
    simp only [Bool.and_eq_true, Bool.not_eq_true'] at h
    obtain ⟨⟨⟨h1, h2⟩, h3⟩, h4⟩ := h
    have := eq_of_beq h1
    subst this
    obtain ⟨d, v, u, g1, g2, g3, g4⟩ := c.gls x h3
    exact shAny (fun _ z => by cases z) (de_glb (glB_ok c h2) g1 g2 h4 g3 g4) sh
  · cases h
theorem ok_bin {o : BO} {a b : CE} (ha : OkE G ct a) (hb : OkE G ct b) : OkE G ct (.bin o a b) := fun {X W C e} c h sh => by
  rw [ckE] at h
  split at h
  · rename_i ea op eb p hv
    have := vBin_ hv
    subst this
    simp only [Bool.and_eq_true] at h
    obtain ⟨⟨h1, h2⟩, h3⟩ := h
    have := eq_of_beq h1
    subst this
    exact shAny (fun _ z => by cases z) (de_bin o (op_binR o) (ha c h2 true) (hb c h3 true)) sh
  · cases h
theorem ok_neg {a : CE} (ha : OkE G ct a) : OkE G ct (.neg a) := fun {X W C e} c h sh => by
  rw [ckE] at h
  split at h
  · rename_i o ea p hv
    have := vUn_ hv
    subst this
    simp only [Bool.and_eq_true] at h
    have := eq_of_beq h.1
    subst this
    exact shAny (fun _ z => by cases z) (de_neg (ha c h.2 true)) sh
  · cases h
theorem ok_not {a : CE} (ha : OkE G ct a) : OkE G ct (.not a) := fun {X W C e} c h sh => by
  rw [ckE] at h
  split at h
  · rename_i o ea p hv
    have := vUn_ hv
    subst this
    simp only [Bool.and_eq_true] at h
    have := eq_of_beq h.1
    subst this
    exact shAny (fun _ z => by cases z) (de_not (ha c h.2 true)) sh
  · cases h
theorem ok_cmp {o : CO} {a b : CE} (ha : OkE G ct a) (hb : OkE G ct b) : OkE G ct (.cmp o a b) := fun {X W C e} c h sh => by
  rw [ckE] at h
  split at h
  · rename_i ea op eb p hv
    have := vCmp1_ hv
    subst this
    simp only [Bool.and_eq_true, Bool.not_eq_true'] at h
    obtain ⟨⟨⟨h1, h2⟩, h3⟩, h4⟩ := h
    have := eq_of_beq h1
    subst this
    exact shAny (fun _ z => by cases z) (de_cmp o (op_cmpR c.un o) h2 (ha c h3 true) (hb c h4 true)) sh
  · cases h
theorem ok_chn {o p : CO} {a b d : CE} (ha : OkE G ct a) (hb : OkE G ct b) (hd : OkE G ct d) : OkE G ct (.chn o p a b d) := fun {X W C e} c h sh => by
  rw [ckE] at h
  split at h
  · rename_i ea op op' eb ec p hv
    have := vCmp2_ hv
    subst this
    simp only [Bool.and_eq_true, Bool.not_eq_true'] at h
    obtain ⟨⟨⟨⟨⟨h1, h2⟩, h3⟩, h4⟩, h5⟩, h6⟩ := h
    have := eq_of_beq h1
    subst this
    have := eq_of_beq h2
    subst this
    exact shAny (fun _ z => by cases z) (de_chn o _ (op_cmpR c.un o) (op_cmpR c.un _) h3 (ha c h4 true) (hb c h5 true) (hd c h6 true)) sh
  · cases h
theorem pe_and1 {X : Cx} {b : Expr} {pos : Pos} {t : TE} (h : PE X b t) : PE X (.BoolOp .And [b] pos) t := ⟨fun pins s σ H Q I q => h.run pins s σ H Q I q⟩
theorem pe_or1 {X : Cx} {b : Expr} {pos : Pos} {t : TE} (h : PE X b t) : PE X (.BoolOp .Or [b] pos) t := ⟨fun pins s σ H Q I q => h.run pins s σ H Q I q⟩
theorem ok_and {a b : CE} (ha : OkE G ct a) (hb : OkE G ct b) : OkE G ct (.and a b) := fun {X W C e} c h sh => by
  rw [ckE] at h
  split at h
  · rename_i o ea eb r p hv
    have := vBool_ hv
    subst this
    simp only [Bool.and_eq_true] at h
    obtain ⟨⟨h1, h2⟩, h3⟩ := h
    have := eq_of_beq h1
    subst this
    refine shAny (fun _ z => by cases z) (de_and (ha c h2 false) ?_) sh
    cases r with
    | nil => exact pe_and1 (hb c h3 false)
    | cons _ _ => exact hb c h3 false
  · cases h
theorem ok_or {a b : CE} (ha : OkE G ct a) (hb : OkE G ct b) : OkE G ct (.or a b) := fun {X W C e} c h sh => by
  rw [ckE] at h
  split at h
  · rename_i o ea eb r p hv
    have := vBool_ hv
    subst this
    simp only [Bool.and_eq_true] at h
    obtain ⟨⟨h1, h2⟩, h3⟩ := h
    have := eq_of_beq h1
    subst this
    refine shAny (fun _ z => by cases z) (de_or (ha c h2 false) ?_) sh
    cases r with
    | nil => exact pe_or1 (hb c h3 false)
    | cons _ _ => exact hb c h3 false
  · cases h
theorem ok_ite {q : CQ} {a b : CE} (hq : OkQ G ct q) (ha : OkE G ct a) (hb : OkE G ct b) : OkE G ct (.ite q a b) := fun {X W C e} c h sh => by
  rw [ckE] at h
  split at h
  · rename_i ec ea eb p hv
    have := vIf_ hv
    subst this
    simp only [Bool.and_eq_true] at h
    exact shAny (fun _ z => by cases z) (de_ite (hq c h.1.1) (ha c h.1.2 false) (hb c h.2 false)) sh
  · cases h
theorem ok_tup {es : CL} (hl : OkL G ct es) : OkE G ct (.tup es) := fun {X W C e} c h sh => by
  rw [ckE] at h
  split at h
  · rename_i l k p hv
    have := vTup_ hv
    subst this
    exact shAny (fun _ z => by cases z) (de_tup (hl c h false)) sh
  · cases h
theorem ok_lst {es : CL} (hl : OkL G ct es) : OkE G ct (.lst es) := fun {X W C e} c h sh => by
  rw [ckE] at h
  split at h
  · rename_i l p hv
    have := vLst_ hv
    subst this
    exact shAny (fun _ z => by cases z) (de_lst (hl c h false)) sh
  · cases h
theorem ok_idx {a i : CE} (ha : OkE G ct a) (hi : OkE G ct i) : OkE G ct (.idx a i) := fun {X W C e} c h sh => by
  rw [ckE] at h
  split at h
  · rename_i ea ei p hv
    have := vSub_ hv
    subst this
    simp only [Bool.and_eq_true] at h
    exact shAny (fun _ z => by cases z) (de_idx (ha c h.1.2 true) (hi c h.2 true) (plain_ix h.1.1)) sh
  · cases h
theorem ok_slc {a : CE} {l u : CP} (ha : OkE G ct a) (hl : OkP G ct l) (hu : OkP G ct u) : OkE G ct (.slc a l u) := fun {X W C e} c h sh => by
  rw [ckE] at h
  split at h
  · rename_i ea ei p hv
    have := vSub_ hv
    subst this
    split at h
    · rename_i el eh p2 hv2
      have := vSl_ hv2
      subst this
      simp only [Bool.and_eq_true] at h
      exact shAny (fun _ z => by cases z) (de_slc (ha c h.1.1 true) (hl c h.1.2) (hu c h.2)) sh
    · cases h
  · cases h
theorem bf_val (f : BF) : (∃ id, f.val = .builtin id) ∨ ∃ id, f.val = .type id := by
  cases f <;> first | exact .inl ⟨_, rfl⟩ | exact .inr ⟨_, rfl⟩
theorem ok_blt {f : BF} {es : CL} (hl : OkL G ct es) : OkE G ct (.blt f es) := fun {X W C e} c h sh => by
  rw [ckE] at h
  split at h
  · rename_i x p l q hv
    have := vCall_ hv
    subst this
    simp only [Bool.and_eq_true, Bool.not_eq_true'] at h
    obtain ⟨⟨⟨⟨h1, h2⟩, h3⟩, h4⟩, h5⟩ := h
    have := eq_of_beq h1
    subst this
    obtain ⟨b1, b2⟩ := bltB_ok c h2
    obtain ⟨k1, k2, k3⟩ := f.boot
    cases l with
    | nil => cases h4
    | cons e es' =>
      have hp := plains h3
      have hs := starEach_cons (es := es') (env := X.env) (hp e List.mem_cons_self)
      have hn := no_stars (env := X.env) (pos := q) (es := es') fun y hy => hp y (List.mem_cons_of_mem _ hy)
      refine shAny (fun _ z => by cases z) ?_ sh
      rcases bf_val f with ⟨id, hid⟩ | ⟨id, hid⟩
      · exact de_bltB hid c.calm c.gd c.un b1 b2 (k1.trans (by rw [hid])) (hl c h5 true) k2 k3 hs hn
      · exact de_bltT hid c.calm c.gd c.un b1 b2 (k1.trans (by rw [hid])) (hl c h5 true) k2 k3 hs hn
  · cases h
theorem ok_call {f : Str} {es ws : CL} {ks : List Str} (hl : OkL G ct es) (hw : OkK G ct ws) : OkE G ct (.call f es ks ws) := fun {X W C e} c h sh => by
  rw [ckE] at h
  split at h
  · rename_i x p l kws q hv
    have := vCall_ hv
    subst this
    simp only [Bool.and_eq_true, Bool.not_eq_true'] at h
    obtain ⟨⟨⟨⟨⟨⟨⟨h1, h2⟩, h3⟩, h4⟩, h5⟩, h6⟩, h7⟩, h8⟩ := h
    have := eq_of_beq h1
    subst this
    refine shAny (fun _ z => by cases z) (de_call (c.df _ h3) c.gd c.tk (glB_ok c h2) h4 (plains h5) (eq_of_beq h6) (fun z => ?_) (fun z => ?_) (hl c h7 false) (hw c h8 false)) sh
    · subst z
      cases es <;> rw [ckL] at h7 <;> first | rfl | cases h7
    · subst z
      cases ws <;> rw [ckK] at h8 <;> first | rfl | cases h8
  · cases h
end
end FR

/-! FrO: the look at expressions is sound, the rest -/
namespace FR
open PySem L2

section
variable {G : Ctx} {ct : ErT}
theorem ok_mth {m : MF} {a : CE} {es : CL} (ha : OkE G ct a) (hl : ∀ b, es = .cons b .nil → OkE G ct b) : OkE G ct (.mth m a es) := fun {X W C e} c h sh => by
  rw [ckE] at h
  split at h
  · rename_i ea nm ap l p hv
    have := vMth_ hv
    subst this
    simp only [Bool.and_eq_true] at h
    obtain ⟨⟨⟨⟨⟨⟨h1, h2⟩, h3⟩, h4⟩, h5⟩, h6⟩, h7⟩ := h
    have := eq_of_beq h1
    subst this
    obtain ⟨s1, s2⟩ := m.slot
    refine shAny (fun _ z => by cases z) ?_ sh
    cases l with
    | nil =>
      cases es with
      | nil => exact de_m0 m s1 s2 (ha c h4 true) (noSup_base h2 _ _) h3
      | cons _ _ => unfold ckL at h7; cases h7
      | star _ _ => unfold ckL at h7; cases h7
    | cons eb l =>
      cases l with
      | cons _ _ => simp at h6
      | nil =>
        cases es with
        | nil => rw [ckL] at h7; cases h7
        | star _ _ =>
          rw [List.all_cons, Bool.and_eq_true] at h5
          unfold ckL at h7
          split at h7
          · rename_i z
            cases z
            cases h5.1
          · cases h7
        | cons b r =>
          rw [ckL] at h7
          simp only [Bool.and_eq_true] at h7
          cases r with
          | nil => exact de_m1 m s1 s2 (ha c h4 true) (hl b rfl c h7.1.2 true) (star1 h7.1.1 [] _) (noSup_base h2 _ _) h3
          | cons _ _ => have z := h7.2; unfold ckL at z; cases z
          | star _ _ => have z := h7.2; unfold ckL at z; cases z
  · cases h
theorem ok_isi {a : CE} {ts : List String} (ha : OkE G ct a) : OkE G ct (.isi a ts) := fun {X W C e} c h sh => by
  rw [ckE] at h
  split at h
  · rename_i x p ea et q hv
    have := vCall_ hv
    subst this
    simp only [Bool.and_eq_true] at h
    obtain ⟨⟨⟨⟨h1, h2⟩, h3⟩, h4⟩, h5⟩ := h
    have := eq_of_beq h1
    subst this
    obtain ⟨b1, b2⟩ := bltB_ok c h2
    refine shAny (fun _ z => by cases z) ?_ sh
    split at h5
    · rename_i l k tp hv2
      have := vTup_ hv2
      subst this
      split at h5
      · rename_i r hr
        simp only [Bool.and_eq_true] at h5
        obtain ⟨⟨e1, e2⟩, e3⟩ := h5
        have := eq_of_beq e1
        subst this
        obtain ⟨q1, q2⟩ := tysOf_ok c hr e3
        refine de_isiT (Ts := r.map (·.2)) ?_ ?_ q2 b1 b2 (ha c h4 true) (star1 h3 _ _) rfl rfl
        · rw [List.map_map]; exact q1
        · rw [List.length_map, sizeLine_eq]; have := of_decide_eq_true e2; omega
      · cases h5
    · split at h5
      · rename_i y tp hv3
        have := vName_ hv3
        subst this
        split at h5
        · rename_i T hT
          simp only [Bool.and_eq_true] at h5
          have := eq_of_beq h5.1
          subst this
          obtain ⟨g1, g2⟩ := bltB_ok c h5.2
          obtain ⟨t1, t2, t3, t4⟩ := tyOf_ok hT
          exact de_isi1 (pe_tyn g1 g2 t1 t2 t3) t4 b1 b2 (ha c h4 true) (star1 h3 _ _) rfl rfl
        · cases h5
      · cases h5
  · cases h
theorem ok_dget {i : Nat} {k : CE} (hk : OkE G ct k) : OkE G ct (.dget i k) := fun {X W C e} c h sh => by
  rw [ckE] at h
  split at h
  · rename_i ed ek p hv
    have := vSub_ hv
    subst this
    split at h
    · rename_i x px hv2
      have := vName_ hv2
      subst this
      simp only [Bool.and_eq_true] at h
      obtain ⟨h1, h2, h3, h4⟩ := varB_ok c h.1.1
      have hu := c.un
      exact shAny (fun _ z => by cases z) (de_dget (by omega) h1 h2 h3 h4 (plain_ix h.1.2) (hk c h.2 true)) sh
    · cases h
  · cases h
theorem plain_all2 {a b : Expr} {env : Env} {p : Pos} (h1 : plainE a = true) (h2 : plainE b = true) : backTo p (starEach [a, b] env) = [(false, eval a env), (false, eval b env)] ∨ True := .inr trivial
theorem ok_din {neg : Bool} {k : CE} {i : Nat} (hk : OkE G ct k) : OkE G ct (.din neg k i) := fun {X W C e} c h sh => by
  rw [ckE] at h
  split at h
  · rename_i ek op ed p hv
    have := vCmp1_ hv
    subst this
    split at h
    · rename_i x px hv2
      have := vName_ hv2
      subst this
      simp only [Bool.and_eq_true] at h
      obtain ⟨h1, h2, h3, h4⟩ := varB_ok c h.1.2
      have hu := c.un
      have ho := eq_of_beq h.1.1
      subst ho
      refine shAny (fun _ z => by cases z) ?_ sh
      cases neg with
      | true => exact pe_cmp (dc_dnot (by omega) h1 h2 h3 h4 (hk c h.2 true)) rfl
      | false => exact pe_cmp (dc_din (by omega) h1 h2 h3 h4 (hk c h.2 true)) rfl
    · cases h
  · cases h
theorem ok_dsrt {i : Nat} : OkE G ct (.dsrt i) := fun {X W C e} c h sh => by
  rw [ckE] at h
  split at h
  · rename_i f p ed q hv
    have := vCall_ hv
    subst this
    split at h
    · rename_i x px hv2
      have := vName_ hv2
      subst this
      simp only [Bool.and_eq_true] at h
      have := eq_of_beq h.1.1
      subst this
      obtain ⟨b1, b2⟩ := bltB_ok c h.1.2
      obtain ⟨h1, h2, h3, h4⟩ := varB_ok c h.2
      exact shAny (fun _ z => by cases z) (de_dsrt c.calm h1 h2 h3 h4 b1 b2) sh
    · cases h
  · cases h
theorem ok_dgtd {i : Nat} {k d : CE} (hk : OkE G ct k) (hd : OkE G ct d) : OkE G ct (.dgtd i k d) := fun {X W C e} c h sh => by
  rw [ckE] at h
  split at h
  · rename_i eo nm ap ek ed p hv
    have := vMth_ hv
    subst this
    split at h
    · rename_i x px hv2
      have := vName_ hv2
      subst this
      simp only [Bool.and_eq_true] at h
      obtain ⟨⟨⟨⟨⟨⟨n1, n2⟩, n3⟩, n4⟩, n5⟩, n6⟩, n7⟩ := h
      have := eq_of_beq n1
      subst this
      obtain ⟨h1, h2, h3, h4⟩ := varB_ok c n2
      have hu := c.un
      have e1 := star1 n4 [ed] X.env
      have e2 := star1 n5 [] X.env
      refine shAny (fun _ z => by cases z) (de_dgtd (by omega) h1 h2 h3 h4 ⟨rfl, ?_, n3, ?_⟩ (hk c n6 true) (hd c n7 false)) sh
      · rw [e1, e2]; rfl
      · rw [e1, e2]; rfl
    · cases h
  · cases h
theorem ok_lc {own : List Nat} {tg : CT} {it : CI} {fs : CG} {el : CE} (hi : OkI G ct it) (hf : OkG G ct fs) (he : OkE G ct el) : OkE G ct (.lc own tg it fs el) := fun {X W C e} c h sh => by
  rw [ckE] at h
  split at h
  · rename_i eel et ei efs s p hv
    have := vLc_ hv
    subst this
    simp only [Bool.and_eq_true] at h
    obtain ⟨⟨⟨⟨⟨⟨h1, h2⟩, h3⟩, h4⟩, h5⟩, h6⟩, h7⟩ := h
    have ok := blkOk_by h3
    have em : (own.map fun i => (C.N.getD i ⟨#[]⟩, i)).map (·.2) = own := by rw [List.map_map]; exact List.map_id' own
    have z := de_lc (W := W) (W0 := fun _ _ _ _ => False) (pos := p) c.calm (by rw [c.n]; exact c.nd) (hi c h1 true) (by rw [c.n, c.sc]; exact ok) (ct' := tg) (by
        intro i hi'
        rw [em]
        have := List.all_eq_true.mp h4 i hi'
        simpa using this) (fun s0 H D cl fp => ckT_ok (c.blk s0 H s D cl fp) h5) (fun s0 H D cl fp => hf (c.blk s0 H s D cl fp) h6) (fun s0 H D cl fp => he (c.blk s0 H s D cl fp) h7 false) (plain_fold h2 _)
    rw [em] at z
    exact shAny (fun _ z => by cases z) z sh
  · cases h
theorem okN_lc {own : List Nat} {tg : CT} {it : CI} {fs : CG} {el : CE} (hi : OkI G ct it) (hf : OkG G ct fs) (he : OkE G ct el) {X : Cx} {W : WX} {C : Cc} {e : Expr} (c : CcOk X G ct W C) (h : ckE (.lc own tg it fs el) C e = true) :
    PE X e (LN X.K ct W (fun er => rn G er (.lc own tg it fs el))) := by
  rw [ckE] at h
  split at h
  · rename_i eel et ei efs s p hv
    have := vLc_ hv
    subst this
    simp only [Bool.and_eq_true] at h
    obtain ⟨⟨⟨⟨⟨⟨h1, h2⟩, h3⟩, h4⟩, h5⟩, h6⟩, h7⟩ := h
    have ok := blkOk_by h3
    have em : (own.map fun i => (C.N.getD i ⟨#[]⟩, i)).map (·.2) = own := by rw [List.map_map]; exact List.map_id' own
    have z := de_lcN (W := W) (W0 := fun _ _ _ _ => False) (pos := p) c.calm (by rw [c.n]; exact c.nd) (hi c h1 true) (by rw [c.n, c.sc]; exact ok) (ct' := tg) (by
        intro i hi'
        rw [em]
        have := List.all_eq_true.mp h4 i hi'
        simpa using this) (fun s0 H D cl fp => ckT_ok (c.blk s0 H s D cl fp) h5) (fun s0 H D cl fp => hf (c.blk s0 H s D cl fp) h6) (fun s0 H D cl fp => he (c.blk s0 H s D cl fp) h7 false) (plain_fold h2 _)
    rw [em] at z
    exact z
  · cases h
theorem ok_rev {a : CE} (ha : OkE G ct a) : OkE G ct (.rev a) := fun {X W C e} c h sh => by
  rw [ckE] at h
  split at h
  · rename_i ea hv
    obtain ⟨k, p1, p2, p3, p, rfl⟩ := vRev_ hv
    exact shAny (fun _ z => by cases z) (de_rev (ha c h true)) sh
  · cases h
theorem ok_fnil : OkF G ct .nil := fun {X W C es} c h => by
  unfold ckF at h
  cases es with
  | nil => exact ⟨[], .nil⟩
  | cons _ _ => cases h
theorem isStrE_ {a : CE} (h : isStrE a = true) : ∃ x, a = .lit (.str x) := by
  unfold isStrE at h
  split at h
  · exact ⟨_, rfl⟩
  · cases h
theorem ok_fcons {a : CE} {r : CL} (ha : OkE G ct a) (hr : OkF G ct r) : OkF G ct (.cons a r) := fun {X W C es} c h => by
  unfold ckF at h
  split at h
  · rename_i e es'
    rw [Bool.and_eq_true] at h
    obtain ⟨h1, h2⟩ := h
    obtain ⟨ts, hts⟩ := hr c h2
    split at h1
    · rename_i e' hv
      obtain ⟨p, rfl⟩ := vFmt_ hv
      exact ⟨_, .fmt (ha c h1 true) hts⟩
    · rw [Bool.and_eq_true] at h1
      obtain ⟨x, rfl⟩ := isStrE_ h1.1
      exact ⟨_, .lit (ha c h1.2 true) hts⟩
  · cases h
theorem ok_fstar {a : CE} {r : CL} : OkF G ct (.star a r) := fun {X W C es} c h => by
  unfold ckF at h
  cases h
theorem ok_fs {es : CL} (hf : OkF G ct es) : OkE G ct (.fs es) := fun {X W C e} c h sh => by
  rw [ckE] at h
  split at h
  · rename_i l hv
    obtain ⟨p, rfl⟩ := vFs_ hv
    rw [Bool.and_eq_true] at h
    have hl := of_decide_eq_true h.1
    obtain ⟨ts, hts⟩ := hf c h.2
    match l, hl, hts with
    | v1 :: v2 :: rest, _, hts => exact shAny (fun _ z => by cases z) (de_fs hts) sh
    | [], hl, _ => exact absurd hl (by simp)
    | [_], hl, _ => exact absurd hl (by simp)
  · cases h
theorem ok_lix {a b : CE} (ha : OkE G ct a) (hb : OkE G ct b) : OkE G ct (.lix a b) := fun {X W C e} c h sh => by
  rw [ckE] at h
  split at h
  · rename_i ea nm ap eb p hv
    have := vMth_ hv
    subst this
    simp only [Bool.and_eq_true] at h
    obtain ⟨⟨⟨⟨⟨h1, h2⟩, h3⟩, h4⟩, h5⟩, h6⟩ := h
    have := eq_of_beq h1
    subst this
    exact shAny (fun _ z => by cases z) (de_lix (ha c h5 true) (hb c h6 true) (by rw [star1 h4]; rfl) (noSup_base h2 _ _) h3) sh
  · cases h
theorem ok_tvar {i : Nat} : OkE G ct (.tvar i) := fun {X W C e} c h sh => by
  rw [ckE] at h
  split at h
  · rename_i x p hv
    have := vName_ hv
    subst this
    obtain ⟨h1, h2, h3, h4⟩ := varB_ok c h
    exact shAny (fun _ z => by cases z) (de_tvar h1 h2 h3 h4) sh
  · cases h
theorem ok_tix {i : Nat} {b : CE} (hb : OkE G ct b) : OkE G ct (.tix i b) := fun {X W C e} c h sh => by
  rw [ckE] at h
  split at h
  · rename_i eo nm ap eb p hv
    have := vMth_ hv
    subst this
    split at h
    · rename_i x px hv2
      have := vName_ hv2
      subst this
      simp only [Bool.and_eq_true] at h
      obtain ⟨⟨⟨⟨n1, n2⟩, n3⟩, n4⟩, n5⟩ := h
      have := eq_of_beq n1
      subst this
      obtain ⟨h1, h2, h3, h4⟩ := varB_ok c n2
      exact shAny (fun _ z => by cases z) (de_tix h1 h2 h3 h4 (hb c n5 true) (by rw [star1 n4]; rfl) n3) sh
    · cases h
  · cases h
theorem ok_tupN {a : CE} (ha : OkE G ct a) : OkE G ct (.tupN a) := fun {X W C e} c h sh => by
  rw [ckE] at h
  split at h
  · rename_i x p ea q hv
    have := vCall_ hv
    subst this
    simp only [Bool.and_eq_true] at h
    obtain ⟨⟨⟨h1, h2⟩, h3⟩, h4⟩ := h
    have := eq_of_beq h1
    subst this
    obtain ⟨b1, b2⟩ := bltB_ok c h2
    exact shAny (fun _ z => by cases z) (de_tupN b1 b2 (ha c h4 true) (by rw [star1 h3]; rfl)) sh
  · cases h
theorem ok_lend {is : List Nat} {a : CE} (ha : OkE G ct a) : OkE G ct (.lend is a) := fun {X W C e} c h sh => by
  rw [ckE] at h
  exact shAny (fun _ z => by cases z) (de_lend (ha c h false)) sh
/-! ### tests -/
theorem ok_qv {a : CE} (ha : OkE G ct a) (hc : ∀ o x y, a = .cmp o x y → OkE G ct x ∧ OkE G ct y) (hn : ∀ o p x y z, a = .chn o p x y z → OkE G ct x ∧ OkE G ct y ∧ OkE G ct z) (hdi : ∀ g x i, a = .din g x i → OkE G ct x) : OkQ G ct (.v a) := fun {X W C e} c h => by
  rw [ckQ] at h
  simp only [Bool.or_eq_true, Bool.and_eq_true] at h
  obtain ⟨(h0 | ⟨h0, h1⟩) | ⟨h0, h1⟩, h⟩ := h
  · exact dt_v (ha c h true) (plainT_ok h0 _)
  · cases a with
    | cmp o x y =>
      obtain ⟨hx, hy⟩ := hc o x y rfl
      rw [ckE] at h
      split at h
      · rename_i ea op eb p hv
        have := vCmp1_ hv
        subst this
        simp only [Bool.and_eq_true, Bool.not_eq_true'] at h
        obtain ⟨⟨⟨h1, h2⟩, h3⟩, h4⟩ := h
        have := eq_of_beq h1
        subst this
        exact dt_cmp o (op_cmpR c.un o) h2 (cmp_bool o) (hx c h3 true) (hy c h4 true)
      · cases h
    | din g x i =>
      have hx : OkE G ct x := @hdi g x i rfl
      rw [ckE] at h
      split at h
      · rename_i ek op ed p hv
        have := vCmp1_ hv
        subst this
        split at h
        · rename_i x px hv2
          have := vName_ hv2
          subst this
          simp only [Bool.and_eq_true] at h
          obtain ⟨v1, v2, v3, v4⟩ := varB_ok c h.1.2
          have hu := c.un
          have ho := eq_of_beq h.1.1
          subst ho
          cases g with
          | true => exact dt_dnot (by omega) v1 v2 v3 v4 (hx c h.2 true)
          | false => exact dt_din (by omega) v1 v2 v3 v4 (hx c h.2 true)
        · cases h
      · cases h
    | _ => cases h0
  · cases a with
    | chn o p' x y z =>
      obtain ⟨hx, hy, hz⟩ := hn o p' x y z rfl
      rw [ckE] at h
      split at h
      · rename_i ea' op1 op2 eb' ec' p2 hv'
        have := vCmp2_ hv'
        subst this
        simp only [Bool.and_eq_true, Bool.not_eq_true'] at h
        obtain ⟨⟨⟨⟨⟨h1, h2⟩, h3⟩, h4⟩, h5⟩, h6⟩ := h
        have := eq_of_beq h1
        subst this
        have := eq_of_beq h2
        subst this
        exact dt_chn o _ (op_cmpR c.un o) (op_cmpR c.un _) h3 (cmp_bool _) (hx c h4 true) (hy c h5 true) (hz c h6 true)
      · cases h
    | _ => cases h0
theorem pt_and {X : Cx} {es : List Expr} {pos : Pos} {t : TT} (h : PW X (.BoolOp .And es pos) t) : PT X (.BoolOp .And es pos) t := ⟨fun pins s σ H Q I q => h.run _ pins s σ H Q I q⟩
theorem pt_or {X : Cx} {es : List Expr} {pos : Pos} {t : TT} (h : PW X (.BoolOp .Or es pos) t) : PT X (.BoolOp .Or es pos) t := ⟨fun pins s σ H Q I q => h.run _ pins s σ H Q I q⟩
theorem pw_any {X : Cx} {o : BoolOp} {es : List Expr} {pos : Pos} {t : TT} (h : PT X (.BoolOp o es pos) t) : PW X (.BoolOp o es pos) t := ⟨fun whole pins s σ H Q I q => h.run pins s σ H Q I q⟩
theorem ok_qand {a b : CQ} (ha : OkQ G ct a) (hb : OkQ G ct b) : OkQ G ct (.and a b) := fun {X W C e} c h => by
  rw [ckQ] at h
  split at h
  · rename_i o ea eb r p hv
    have := vBool_ hv
    subst this
    simp only [Bool.and_eq_true] at h
    obtain ⟨⟨h1, h2⟩, h3⟩ := h
    have := eq_of_beq h1
    subst this
    refine pt_and (dw_and (ha c h2) ?_)
    cases r with
    | nil => exact pw_and1 (hb c h3)
    | cons _ _ => exact pw_any (hb c h3)
  · cases h
theorem ok_qor {a b : CQ} (ha : OkQ G ct a) (hb : OkQ G ct b) : OkQ G ct (.or a b) := fun {X W C e} c h => by
  rw [ckQ] at h
  split at h
  · rename_i o ea eb r p hv
    have := vBool_ hv
    subst this
    simp only [Bool.and_eq_true] at h
    obtain ⟨⟨h1, h2⟩, h3⟩ := h
    have := eq_of_beq h1
    subst this
    refine pt_or (dw_or (ha c h2) ?_)
    cases r with
    | nil => exact pw_or1 (hb c h3)
    | cons _ _ => exact pw_any (hb c h3)
  · cases h
theorem ok_qnot {a : CQ} (ha : OkQ G ct a) : OkQ G ct (.not a) := fun {X W C e} c h => by
  rw [ckQ] at h
  split at h
  · rename_i o ea p hv
    have := vUn_ hv
    subst this
    simp only [Bool.and_eq_true] at h
    have := eq_of_beq h.1
    subst this
    exact dt_not (ha c h.2)
  · cases h
theorem ok_gno : OkG G ct .no := fun {X W C e} c h => by
  rw [ckG] at h
  cases e with
  | nil => exact dt_ifs0
  | cons _ _ => cases h
theorem ok_gsome {q : CQ} (hq : OkQ G ct q) : OkG G ct (.some q) := fun {X W C e} c h => by
  unfold ckG at h
  split at h
  · exact dt_ifs1 (hq c h)
  · cases h
theorem ok_lnil : OkL G ct .nil := fun {X W C e} c h sh => by
  unfold ckL at h
  cases e with
  | nil => exact da_nil
  | cons _ _ => cases h
theorem ok_lcons {a : CE} {r : CL} (ha : OkE G ct a) (hr : OkL G ct r) : OkL G ct (.cons a r) := fun {X W C e} c h sh => by
  unfold ckL at h
  split at h
  · simp only [Bool.and_eq_true] at h
    exact da_cons (ha c h.1.2 sh) (hr c h.2 sh) (star1 h.1.1 _ _)
  · cases h
theorem ok_lstar {a : CE} {r : CL} (ha : OkE G ct a) (hr : OkL G ct r) : OkL G ct (.star a r) := fun {X W C e} c h sh => by
  unfold ckL at h
  split at h
  · simp only [Bool.and_eq_true] at h
    exact da_star (ha c h.1 true) (hr c h.2 sh)
  · cases h
theorem ok_knil : OkK G ct .nil := fun {X W C e} c h sh => by
  unfold ckK at h
  cases e with
  | nil => exact dk_nil
  | cons _ _ => cases h
theorem ok_kcons {a : CE} {r : CL} (ha : OkE G ct a) (hr : OkK G ct r) : OkK G ct (.cons a r) := fun {X W C e} c h sh => by
  unfold ckK at h
  split at h
  · simp only [Bool.and_eq_true] at h
    exact dk_cons (ha c h.1 sh) (hr c h.2 sh)
  · cases h
theorem ok_kstar {a : CE} {r : CL} : OkK G ct (.star a r) := fun {X W C e} c h sh => by
  unfold ckK at h
  cases h
theorem ok_pno : OkP G ct .no := fun {X W C e} c h => by
  unfold ckP at h
  cases e with
  | none => exact dp_no
  | some _ => cases h
theorem ok_psome {a : CE} (ha : OkE G ct a) : OkP G ct (.some a) := fun {X W C e} c h => by
  unfold ckP at h
  split at h
  · exact dp_some (ha c h true)
  · cases h
theorem ok_ie {a : CE} (ha : OkE G ct a) : OkI G ct (.e a) := fun {X W C t e} c h sh => by
  unfold ckI at h
  exact di_e (ha c h sh)
theorem ok_ir1 {a : CE} (ha : OkE G ct a) : OkI G ct (.rng1 a) := fun {X W C t e} c h sh => by
  unfold ckI at h
  split at h
  · rename_i f p ea q hv
    have := vCall_ hv
    subst this
    simp only [Bool.and_eq_true] at h
    obtain ⟨⟨⟨h1, h2⟩, h3⟩, h4⟩ := h
    have := eq_of_beq h1
    subst this
    obtain ⟨b1, b2⟩ := bltB_ok c h2
    exact di_rng1 b1 b2 (ha c h4 true) (star1 h3 _ _)
  · cases h
theorem ok_ir2 {a b : CE} (ha : OkE G ct a) (hb : OkE G ct b) : OkI G ct (.rng2 a b) := fun {X W C t e} c h sh => by
  unfold ckI at h
  split at h
  · rename_i f p ea eb q hv
    have := vCall_ hv
    subst this
    simp only [Bool.and_eq_true] at h
    obtain ⟨⟨⟨⟨⟨h1, h2⟩, h3⟩, h4⟩, h5⟩, h6⟩ := h
    have := eq_of_beq h1
    subst this
    obtain ⟨b1, b2⟩ := bltB_ok c h2
    exact di_rng2 b1 b2 (ha c h5 true) (hb c h6 true) (by rw [star1 h3, star1 h4]; rfl) (star1 h4 _ _)
  · cases h
theorem ok_ird {a b : CE} (ha : OkE G ct a) (hb : OkE G ct b) : OkI G ct (.rngd a b) := fun {X W C t e} c h sh => by
  unfold ckI at h
  split at h
  · rename_i f p ea eb ec q hv
    have := vCall_ hv
    subst this
    simp only [Bool.and_eq_true] at h
    obtain ⟨⟨⟨⟨⟨⟨h1, h2⟩, h3⟩, h4⟩, h5⟩, h6⟩, h7⟩ := h
    have := eq_of_beq h1
    subst this
    obtain ⟨b1, b2⟩ := bltB_ok c h2
    split at h7
    · rename_i o e1 pu hu
      have := vUn_ hu
      subst this
      simp only [Bool.and_eq_true] at h7
      have := eq_of_beq h7.1
      subst this
      have h8 := h7.2
      split at h8
      · rename_i cc kk pp hcc
        have := vConst_ hcc
        subst this
        have := eq_of_beq h8
        subst this
        exact di_rngd b1 b2 ((pe_un un_neg pe_int).weak fun σ H Q q => ⟨1, rfl, q⟩) (ha c h5 true) (hb c h6 true) (star1 h3 _ _) (star1 h4 _ _) rfl
      · cases h8
    · cases h7
  · cases h
theorem ok_ien {a : CE} (ha : OkE G ct a) : OkI G ct (.enum a) := fun {X W C t e} c h sh => by
  unfold ckI at h
  split at h
  · rename_i f p ea q hv
    have := vCall_ hv
    subst this
    simp only [Bool.and_eq_true] at h
    obtain ⟨⟨⟨⟨h1, h2⟩, h3⟩, h4⟩, h5⟩ := h
    have := eq_of_beq h1
    subst this
    obtain ⟨b1, b2⟩ := bltB_ok c h2
    obtain ⟨⟨es, k, pt⟩, ht⟩ := Option.isSome_iff_exists.mp h4
    have := vTup_ ht
    subst this
    exact di_enum b1 b2 (ha c h5 sh) (star1 h3 _ _)
  · cases h
theorem ok_izip {a b : CE} (ha : OkE G ct a) (hb : OkE G ct b) : OkI G ct (.zip a b) := fun {X W C t e} c h sh => by
  unfold ckI at h
  split at h
  · rename_i f p ea eb q hv
    have := vCall_ hv
    subst this
    simp only [Bool.and_eq_true] at h
    obtain ⟨⟨⟨⟨⟨⟨h1, h2⟩, h3⟩, h4⟩, h5⟩, h6⟩, h7⟩ := h
    have := eq_of_beq h1
    subst this
    obtain ⟨b1, b2⟩ := bltB_ok c h2
    obtain ⟨⟨es, k, pt⟩, ht⟩ := Option.isSome_iff_exists.mp h5
    have := vTup_ ht
    subst this
    exact di_zip b1 b2 (ha c h6 sh) (hb c h7 sh) (star1 h3 _ _) (star1 h4 _ _)
  · cases h
/-! ### all terms -/
mutual
theorem okE : ∀ a : CE, OkE G ct a
  | .var _ => ok_var
  | .lit _ => ok_lit
  | .glb _ => ok_glb
  | .bin _ a b => ok_bin (okE a) (okE b)
  | .neg a => ok_neg (okE a)
  | .cmp _ a b => ok_cmp (okE a) (okE b)
  | .chn _ _ a b c => ok_chn (okE a) (okE b) (okE c)
  | .and a b => ok_and (okE a) (okE b)
  | .or a b => ok_or (okE a) (okE b)
  | .not a => ok_not (okE a)
  | .ite q a b => ok_ite (okQ q) (okE a) (okE b)
  | .tup es => ok_tup (okL es)
  | .lst es => ok_lst (okL es)
  | .idx a i => ok_idx (okE a) (okE i)
  | .slc a l h => ok_slc (okE a) (okP l) (okP h)
  | .blt _ es => ok_blt (okL es)
  | .mth _ a es => ok_mth (okE a) fun b hb => match es, hb with
    | .cons b' .nil, hb => by cases hb; exact okE _
  | .isi a _ => ok_isi (okE a)
  | .call _ es _ ws => ok_call (okL es) (okK ws)
  | .dget _ k => ok_dget (okE k)
  | .dgtd _ k d => ok_dgtd (okE k) (okE d)
  | .din _ k _ => ok_din (okE k)
  | .dsrt _ => ok_dsrt
  | .lc _ _ it fs el => ok_lc (okI it) (okG fs) (okE el)
  | .rev a => ok_rev (okE a)
  | .fs es => ok_fs (okF es)
  | .lix a b => ok_lix (okE a) (okE b)
  | .tvar _ => ok_tvar
  | .tix _ b => ok_tix (okE b)
  | .tupN a => ok_tupN (okE a)
  | .lend _ a => ok_lend (okE a)
theorem okF : ∀ l : CL, OkF G ct l
  | .nil => ok_fnil
  | .cons a r => ok_fcons (okE a) (okF r)
  | .star _ _ => ok_fstar
theorem okQ : ∀ q : CQ, OkQ G ct q
  | .v a => ok_qv (okE a) (fun o x y h => by
      match a, h with
      | .cmp _ x y, rfl => exact ⟨okE x, okE y⟩) (fun o p x y z h => by
      match a, h with
      | .chn _ _ x y z, rfl => exact ⟨okE x, okE y, okE z⟩) (fun g x i h => by
      match a, h with
      | .din _ x _, rfl => exact @okE x)
  | .and a b => ok_qand (okQ a) (okQ b)
  | .or a b => ok_qor (okQ a) (okQ b)
  | .not a => ok_qnot (okQ a)
theorem okG : ∀ q : CG, OkG G ct q
  | .no => ok_gno
  | .some q => ok_gsome (okQ q)
theorem okL : ∀ l : CL, OkL G ct l
  | .nil => ok_lnil
  | .cons a r => ok_lcons (okE a) (okL r)
  | .star a r => ok_lstar (okE a) (okL r)
theorem okK : ∀ l : CL, OkK G ct l
  | .nil => ok_knil
  | .cons a r => ok_kcons (okE a) (okK r)
  | .star _ _ => ok_kstar
theorem okP : ∀ p : CP, OkP G ct p
  | .no => ok_pno
  | .some a => ok_psome (okE a)
theorem okI : ∀ i : CI, OkI G ct i
  | .e a => ok_ie (okE a)
  | .rng1 a => ok_ir1 (okE a)
  | .rng2 a b => ok_ir2 (okE a) (okE b)
  | .rngd a b => ok_ird (okE a) (okE b)
  | .enum a => ok_ien (okE a)
  | .zip a b => ok_izip (okE a) (okE b)
end
end
end FR

/-! FrP: the look at statements, and that it is sound -/
namespace FR
open PySem L2

/-- a list display's exchange of stores, x = [.. for ..] on one line -/
def swB (C : Cc) (x : Str) (pos : Pos) : Expr → Bool
  | .ListComp _ _ s p => C.sc.names.lookup x == some .local && pos.line == p.line && !(s.names.any fun (n, k) => n == x && (k == .local || k == .cell))
  | .SetComp _ _ _ _ => true
  | .DictComp _ _ _ _ _ => true
  | _ => false
def noComp : Expr → Bool
  | .ListComp _ _ _ _ => false
  | .SetComp _ _ _ _ => false
  | .DictComp _ _ _ _ _ => false
  | _ => true
def isLc : CE → Bool
  | .lc _ _ _ _ _ => true
  | _ => false
def nmB (C : Cc) (i : Nat) (x : Str) : Bool := C.N[i]? == some x && locB C x
/-- stores are not exchanged -/
def stN : Expr → Bool
  | .Tuple vs _ _ => vs.all plainE && vs.all (foldedForSure 8)
  | _ => true
/-- some target is no plain local: nothing is exchanged -/
def stC (C : Cc) (ts : List Expr) : Bool := ts.any fun t => match t with
  | .Name x _ => !(C.sc.names.lookup x == some .local)
  | _ => false
/-- two or three stores, exchanged -/
def stX (C : Cc) (xs : List (Str × Pos)) (vs : List Expr) : Bool :=
  xs.length == vs.length && vs.all plainE && (xs.all fun x => C.sc.names.lookup x.1 == some .local && x.2.line == ((xs.head?.map (·.2.line)).getD 0)) && decide ((xs.map (·.1)).Nodup) && !(vs.all (foldedForSure 8)) && !(vs.all (constantsAlone 8))
def ckN : CE → Cc → Expr → Bool
  | .lst es, C, e => ckE (.lst es) C e
  | .lc a b c d f, C, e => ckE (.lc a b c d f) C e
  | .bin .add a b, C, e => match vBin e with
    | some (ea, op, eb, _) => op == .Add && ckE a C ea && ckE b C eb
    | none => false
  | .blt .list (.cons a .nil), C, e => match vCall e with
    | some (x, _, [ea], [], _) => x == ("list" : Str) && bltB C x && plainE ea && ckE a C ea
    | _ => false
  | .slc a l h, C, e => match vSub e with
    | some (ea, ei, _) => match vSl ei with
      | some (el, eh, _) => ckE a C ea && ckP l C el && ckP h C eh
      | none => false
    | none => false
  | _, _, _ => false
/-- what some names are given -/
def ckA : CA → Cc → List Expr → Bool
  | .nil, _, l => l.isEmpty
  | .d a r, C, l => match l with
    | e :: es => plainE e && ckE a C e && ckA r C es
    | [] => false
  | .o a r, C, l => match l with
    | e :: es => plainE e && ckN a C e && ckA r C es
    | [] => false
mutual
def ckS : CS → Cc → Stmt → Bool
  | .asg i a, C, s => match s with
    | .Assign [.Name x p] e _ => nmB C i x && ckE a C e && (!swB C x p e || isLc a)
    | _ => false
  | .own i a, C, s => match s with
    | .Assign [.Name x p] e _ => nmB C i x && ckN a C e && (!swB C x p e || isLc a)
    | _ => false
  | .frz _, _, _ => false
  | .new i, C, s => match s with
    | .Assign [.Name x _] (.Dict [] [] _) _ => nmB C i x
    | _ => false
  | .unp is a, C, s => match s with
    | .Assign [.Tuple ts k tp] e _ => ckT C (.t is) (.Tuple ts k tp) && ckE a C e && (stN e || stC C ts)
    | _ => false
  | .par i j a b, C, s => match s with
    | .Assign [.Tuple [.Name x px, .Name y py] _ _] (.Tuple [ea, eb] _ _) _ => nmB C i x && nmB C j y && stX C [(x, px), (y, py)] [ea, eb] && ckL (.cons a (.cons b .nil)) C [ea, eb] && !(i == j)
    | _ => false
  | .par3 i j l a b c, C, s => match s with
    | .Assign [.Tuple [.Name x px, .Name y py, .Name z pz] _ _] (.Tuple [ea, eb, ec] _ _) _ => nmB C i x && nmB C j y && nmB C l z && stX C [(x, px), (y, py), (z, pz)] [ea, eb, ec] && ckL (.cons a (.cons b (.cons c .nil))) C [ea, eb, ec] && !(i == j) && !(i == l) && !(j == l)
    | _ => false
  | .parS is a, C, s => match is with
    | [i, j] => (match s with
      | .Assign [.Tuple [.Name x px, .Name y py] _ _] (.Tuple [ea, eb] _ _) _ => nmB C i x && nmB C j y && stX C [(x, px), (y, py)] [ea, eb] && ckA a C [ea, eb] && !(i == j)
      | _ => false)
    | [i, j, l] => (match s with
      | .Assign [.Tuple [.Name x px, .Name y py, .Name z pz] _ _] (.Tuple [ea, eb, ec] _ _) _ => nmB C i x && nmB C j y && nmB C l z && stX C [(x, px), (y, py), (z, pz)] [ea, eb, ec] && ckA a C [ea, eb, ec] && !(i == j) && !(i == l) && !(j == l)
      | _ => false)
    | _ => false
  | .app i a, C, s => match s with
    | .Expr (.Call (.Attribute (.Name x _) nm ap) [e] [] p) _ => nm == ("append" : Str) && varB C i x && plainE e && ap.endLine == p.line && ckE a C e
    | _ => false
  | .ext i a, C, s => match s with
    | .Expr (.Call (.Attribute (.Name x _) nm ap) [e] [] p) _ => nm == ("extend" : Str) && varB C i x && plainE e && ap.endLine == p.line && ckE a C e
    | _ => false
  | .extL _ i a, C, s => match s with
    | .Expr (.Call (.Attribute (.Name x _) nm ap) [e] [] p) _ => nm == ("extend" : Str) && varB C i x && plainE e && ap.endLine == p.line && ckE a C e
    | _ => false
  | .apop i j ix, C, s => match s with
    | .Expr (.Call (.Attribute (.Name x _) nm ap) [.Call (.Attribute (.Name y _) nm2 ap2) [e] [] p2] [] p) _ => nm == ("append" : Str) && nm2 == ("pop" : Str) && varB C i x && varB C j y && plainE e && ap.endLine == p.line && ap2.endLine == p2.line && ckE ix C e
    | _ => false
  | .put i ix a, C, s => match s with
    | .Assign [.Subscript (.Name x _) ei _] e _ => varB C i x && plainE ei && ckE ix C ei && ckE a C e
    | _ => false
  | .dput i ix a, C, s => match s with
    | .Assign [.Subscript (.Name x _) ei _] e _ => varB C i x && plainE ei && ckE ix C ei && ckE a C e
    | _ => false
  | .aug i o a, C, s => match s with
    | .AugAssign (.Name x _) op e _ => nmB C i x && op == (if o = true then .Add else .Sub) && ckE a C e
    | _ => false
  | .exp a, C, s => match s with
    | .Expr e _ => noComp e && ckE a C e
    | _ => false
  | .ifs q a b, C, s => match s with
    | .If e x y _ => ckQ q C e && ckB a C x && ckB b C y
    | _ => false
  | .for_ t it b, C, s => match s with
    | .For et ei bd [] _ => ckT C t et && ckI it C et ei && plainE ei && ckB b C bd
    | _ => false
  | .whl q b, C, s => match s with
    | .While e bd [] _ => ckQ q C e && ckB b C bd
    | _ => false
  | .ret a, C, s => match s with
    | .Return (some e) _ => ckE a C e
    | _ => false
  | .retF a, C, s => match s with
    | .Return (some e) _ => ckN a C e
    | _ => false
  | .retN, _, s => match s with
    | .Return none _ => true
    | _ => false
  | .pass, _, s => match s with
    | .Pass _ => true
    | _ => false
  | .brk, _, s => match s with
    | .Break _ => true
    | _ => false
  | .cnt, _, s => match s with
    | .Continue _ => true
    | _ => false
  | .bad, _, _ => true
def ckB : CB → Cc → List Stmt → Bool
  | .nil, _, l => l.isEmpty
  | .cons (.frz _) r, C, l => ckB r C l
  | .cons a r, C, l => match l with
    | s :: ss => ckS a C s && ckB r C ss
    | [] => false
end

section
variable {X : Cx} {G : Ctx} {ct : ErT} {W : WX} {C : Cc}
theorem nmB_ok (c : CcOk X G ct W C) {x : Str} {i : Nat} (h : nmB C i x = true) : X.N.Nodup ∧ X.N[i]? = some x ∧ L2.Loc X.env.scope x ∧ (X.fn x = true ∨ X.env.scope.names.lookup x = some .local) := by
  unfold nmB at h
  rw [Bool.and_eq_true] at h
  obtain ⟨l1, l2⟩ := locB_ok c h.2
  exact ⟨by rw [c.n]; exact c.nd, by rw [c.n]; exact eq_of_beq h.1, l1, l2⟩
theorem sw_none {e : Expr} (h : noComp e = true) (l : Nat) (env : Env) : swapsWith e none l env = pure false := by
  cases e <;> first | rfl | cases h
theorem sw_sub {e o i : Expr} {p : Pos} (l : Nat) (env : Env) : swapsWith e (some (.Subscript o i p)) l env = pure false := by
  cases e <;> rfl
theorem sw_tup {e : Expr} {es k} {p : Pos} (l : Nat) (env : Env) : swapsWith e (some (.Tuple es k p)) l env = pure false := by
  cases e <;> rfl
theorem sw_name (c : CcOk X G ct W C) (hk : X.env.scope.kind = .function) {x : Str} {p : Pos} {e : Expr} (h : swB C x p e = false) (l : Nat) : swapsWith e (some (.Name x p)) l X.env = pure false := by
  have hb : X.env.blockKind = .function := by unfold Env.blockKind; rw [hk]; rfl
  cases e with
  | ListComp el gs s q =>
    unfold swB at h
    unfold swapsWith
    have hkd : X.env.kindOf x = C.sc.names.lookup x := by show X.env.scope.names.lookup x = _; rw [c.sc]
    simp only [hb, hkd, Expr.pos]
    show pure (_ : Bool) = pure false
    exact congrArg pure h
  | SetComp _ _ _ _ => cases h
  | DictComp _ _ _ _ _ => cases h
  | _ => rfl
end
end FR

/-! FrQ: the look at statements is sound -/
namespace FR
open PySem L2
theorem foldr_plain : ∀ {vs : List Expr}, vs.all plainE = true → (vs.any fun | .Starred .. => true | _ => false) = false
  | [], _ => rfl
  | e :: es, h => by
    rw [List.all_cons, Bool.and_eq_true] at h
    rw [List.any_cons, foldr_plain h.2, Bool.or_false]
    cases e <;> first | rfl | (cases h.1)
theorem stX2 {X : Cx} {C : Cc} {x y : Str} {px py tp p2 : Pos} {kt k2 : Nat} {a b : Expr} (hs : X.env.scope = C.sc) (hk : X.env.scope.kind = .function) (h : stX C [(x, px), (y, py)] [a, b] = true) :
    swappedStores [.Tuple [.Name x px, .Name y py] kt tp] (.Tuple [a, b] k2 p2) X.env = pure (some [x, y]) ∧ X.env.scope.names.lookup x = some .local ∧ X.env.scope.names.lookup y = some .local := by
  have hb : X.env.blockKind = .function := by unfold Env.blockKind; rw [hk]; rfl
  unfold stX at h
  simp only [Bool.and_eq_true, Bool.not_eq_true', List.all_cons, List.all_nil, Bool.and_true, decide_eq_true_eq] at h
  obtain ⟨⟨⟨⟨⟨h1, h2⟩, ⟨⟨h3, h3'⟩, h4, h4'⟩⟩, h5⟩, h6⟩, h7⟩ := h
  have kx : X.env.kindOf x = some .local := by show X.env.scope.names.lookup x = _; rw [hs]; exact eq_of_beq h3
  have ky : X.env.kindOf y = some .local := by show X.env.scope.names.lookup y = _; rw [hs]; exact eq_of_beq h4
  refine ⟨?_, kx, ky⟩
  have hp := foldr_plain (vs := [a, b]) (by simp [h2])
  have ln : py.line = px.line := by simpa using h4'
  have nxy : x ≠ y := by simpa using h5
  have f6 : [a, b].all (foldedForSure 8) = false := by simpa [List.all_cons] using h6
  have f7 : [a, b].all (constantsAlone 8) = false := by simpa [List.all_cons] using h7
  have b1 : (y == x) = false := beq_eq_false_iff_ne.mpr (Ne.symm nxy)
  have e2 : [x, y].eraseDups = [x, y] := by
    simp [List.eraseDups, List.eraseDupsBy, List.eraseDupsBy.loop, b1]
  unfold swappedStores
  dsimp only
  rw [hb]
  generalize hL : List.filterMap _ [Expr.Name x px, Expr.Name y py] = L
  have eL : L = [x, y] := by rw [← hL]; simp [List.filterMap, kx, ky, Expr.pos, ln]
  subst eL
  refine (if_neg (by simp)).trans ((if_neg fun z => Bool.noConfusion (hp.symm.trans z)).trans ((if_neg (by rw [e2]; simp)).trans ((if_neg (by rw [f6]; simp)).trans (if_neg (by rw [f7]; simp)))))
theorem stX3 {X : Cx} {C : Cc} {x y z : Str} {px py pz tp p2 : Pos} {kt k2 : Nat} {a b c : Expr} (hs : X.env.scope = C.sc) (hk : X.env.scope.kind = .function) (h : stX C [(x, px), (y, py), (z, pz)] [a, b, c] = true) :
    swappedStores [.Tuple [.Name x px, .Name y py, .Name z pz] kt tp] (.Tuple [a, b, c] k2 p2) X.env = pure (some [x, y, z]) ∧ X.env.scope.names.lookup x = some .local ∧ X.env.scope.names.lookup y = some .local ∧ X.env.scope.names.lookup z = some .local := by
  have hb : X.env.blockKind = .function := by unfold Env.blockKind; rw [hk]; rfl
  unfold stX at h
  simp only [Bool.and_eq_true, Bool.not_eq_true', List.all_cons, List.all_nil, Bool.and_true, decide_eq_true_eq] at h
  obtain ⟨⟨⟨⟨⟨h1, h2⟩, ⟨⟨h3, h3'⟩, ⟨h4, h4'⟩, h8, h8'⟩⟩, h5⟩, h6⟩, h7⟩ := h
  have kx : X.env.kindOf x = some .local := by show X.env.scope.names.lookup x = _; rw [hs]; exact eq_of_beq h3
  have ky : X.env.kindOf y = some .local := by show X.env.scope.names.lookup y = _; rw [hs]; exact eq_of_beq h4
  have kz : X.env.kindOf z = some .local := by show X.env.scope.names.lookup z = _; rw [hs]; exact eq_of_beq h8
  refine ⟨?_, kx, ky, kz⟩
  have hp := foldr_plain (vs := [a, b, c]) (by simp [h2])
  have ln : py.line = px.line := by simpa using h4'
  have ln2 : pz.line = px.line := by simpa using h8'
  have nd : (x ≠ y ∧ x ≠ z) ∧ y ≠ z := by simpa using h5
  obtain ⟨⟨n1, n2⟩, n3⟩ := nd
  have f6 : [a, b, c].all (foldedForSure 8) = false := by simpa [List.all_cons] using h6
  have f7 : [a, b, c].all (constantsAlone 8) = false := by simpa [List.all_cons] using h7
  have b1 : (y == x) = false := beq_eq_false_iff_ne.mpr (Ne.symm n1)
  have b2 : (z == x) = false := beq_eq_false_iff_ne.mpr (Ne.symm n2)
  have b3 : (z == y) = false := beq_eq_false_iff_ne.mpr (Ne.symm n3)
  have e2 : [x, y, z].eraseDups = [x, y, z] := by
    simp [List.eraseDups, List.eraseDupsBy, List.eraseDupsBy.loop, b1, b2, b3]
  unfold swappedStores
  dsimp only
  rw [hb]
  generalize hL : List.filterMap _ [Expr.Name x px, Expr.Name y py, Expr.Name z pz] = L
  have eL : L = [x, y, z] := by rw [← hL]; simp [List.filterMap, kx, ky, kz, Expr.pos, ln, ln2]
  subst eL
  refine (if_neg (by simp)).trans ((if_neg fun z => Bool.noConfusion (hp.symm.trans z)).trans ((if_neg (by rw [e2]; simp)).trans ((if_neg (by rw [f6]; simp)).trans (if_neg (by rw [f7]; simp)))))
theorem stN_ok {ts : List Expr} {k : Nat} {tp : Pos} {e : Expr} {env : Env} (h : stN e = true) : swappedStores [.Tuple ts k tp] e env = pure none := by
  cases e with
  | Tuple vs k2 p2 =>
    unfold stN at h
    rw [Bool.and_eq_true] at h
    unfold swappedStores
    dsimp only
    rw [h.2]
    split
    · rfl
    · split
      · rfl
      · split
        · rfl
        · rfl
  | _ => rfl

theorem fm_lt {α β : Type} {f : α → Option β} : ∀ {ts : List α} {t : α}, t ∈ ts → f t = none → (ts.filterMap f).length < ts.length
  | a :: ts, t, h, e => by
    have le := List.length_filterMap_le f ts
    rcases List.mem_cons.mp h with rfl | h
    · rw [List.filterMap_cons_none e, List.length_cons]; omega
    · have := fm_lt h e
      cases ha : f a with
      | none => rw [List.filterMap_cons_none ha, List.length_cons]; omega
      | some b => rw [List.filterMap_cons_some ha, List.length_cons, List.length_cons]; omega
theorem stC_ok {C : Cc} {ts : List Expr} {k : Nat} {tp : Pos} {e : Expr} {env : Env} (hs : env.scope = C.sc) (h : stC C ts = true) : swappedStores [.Tuple ts k tp] e env = pure none := by
  cases e with
  | Tuple vs k2 p2 =>
    unfold stC at h
    rw [List.any_eq_true] at h
    obtain ⟨t, ht, h⟩ := h
    unfold swappedStores
    dsimp only
    generalize hL : List.filterMap _ ts = L
    have hlen : L.length < ts.length := by
      rw [← hL]
      refine fm_lt ht ?_
      split at h
      · rename_i x p
        have kx : (env.kindOf x == some .local) = false := by
          have : env.kindOf x = C.sc.names.lookup x := by show env.scope.names.lookup x = _; rw [hs]
          rw [this]; simpa using h
        show (if (env.kindOf x == some .local && _) = true then _ else _) = none
        rw [kx, Bool.false_and, if_neg Bool.false_ne_true]
      · cases h
    have hne : (L.length != ts.length) = true := by simp; omega
    split
    · rfl
    · split
      · rfl
      · rw [hne, Bool.true_or, if_pos rfl]
  | _ => rfl

/-- the context of a def's body -/
structure StOk (X : Cx) (G : Ctx) (ct : ErT) (W : WX) (C : Cc) : Prop where
  c : CcOk X G ct W C
  hp : PassesOwn (model X.prog X.w) X.A X.env X.xe
  hk : X.env.scope.kind = .function
def OkS (G : Ctx) (ct : ErT) (cs : CS) : Prop := ∀ {X : Cx} {W : WX} {C : Cc} {s : Stmt}, StOk X G ct W C → ckS cs C s = true → PS X s (LS X.K ct W (fun er => ws G er cs))
def OkB (G : Ctx) (ct : ErT) (cb : CB) : Prop := ∀ {X : Cx} {W : WX} {C : Cc} {s : List Stmt}, StOk X G ct W C → ckB cb C s = true → PSs X s (LS X.K ct W (fun er => wb G er cb))
theorem sws_tup {e : Expr} {es k} {p : Pos} {l : Nat} {env : Env} : swapsWithSole [.Tuple es k p] e l env = pure false := sw_tup (es := es) (k := k) (p := p) l env
theorem sws_sub {e o i : Expr} {p : Pos} {l : Nat} {env : Env} : swapsWithSole [.Subscript o i p] e l env = pure false := sw_sub (o := o) (i := i) (p := p) l env
theorem tAsg_imp {t t' : TE} {g : TG} (w : ∀ σ H Q, t' σ H Q → t σ H Q) {D σ H} (h : tAsg t' g D σ H) : tAsg t g D σ H := w _ _ _ h
section
variable {G : Ctx} {ct : ErT}
/-- x = [.. for ..] on one line -/
theorem setLc {X : Cx} {W : WX} {C : Cc} {x : Str} {p pos : Pos} {e : Expr} {i : Nat} {own : List Nat} {tg : CT} {it : CI} {fs : CG} {el : CE} (c : StOk X G ct W C) (hn : nmB C i x = true) (h : ckE (.lc own tg it fs el) C e = true) (hsw : swB C x p e = true) :
    PS X (.Assign [.Name x p] e pos) (tAsg (LN X.K ct W (fun er => rn G er (.lc own tg it fs el))) (gName i)) := by
  rw [ckE] at h
  split at h
  · rename_i eel et ei efs s q hv
    have := vLc_ hv
    subst this
    simp only [Bool.and_eq_true] at h
    obtain ⟨⟨⟨⟨⟨⟨h1, h2⟩, h3⟩, h4⟩, h5⟩, h6⟩, h7⟩ := h
    have ok := blkOk_by h3
    have em : (own.map fun i => (C.N.getD i ⟨#[]⟩, i)).map (·.2) = own := by rw [List.map_map]; exact List.map_id' own
    obtain ⟨n1, n2, n3, n4⟩ := nmB_ok c.c hn
    unfold swB at hsw
    simp only [Bool.and_eq_true, Bool.not_eq_true'] at hsw
    obtain ⟨⟨s1, s2⟩, s3⟩ := hsw
    have hl : X.env.scope.names.lookup x = some .local := by rw [c.c.sc]; exact eq_of_beq s1
    have hix : ∀ i ∈ tg.ixs, i ∈ (own.map fun i => (C.N.getD i ⟨#[]⟩, i)).map (·.2) := by
      intro i hi'
      rw [em]
      have := List.all_eq_true.mp h4 i hi'
      simpa using this
    have z := ps_setLc (i := i) (spos := pos) (py := p) (g := LG X.K tg) (tt := LT X.K ct (fun _ _ _ _ => False) (fun er => rg G er fs)) (te := LE X.K ct (fun _ _ _ _ => False) false (fun er => rd G false er el)) (wi := LI X.K ct W true (fun er => ri G true er it)) c.c.calm n1 n2 hl (sw_true c.hk hl s2 s3) (okI it c.c h1 true) (by rw [c.c.n, c.c.sc]; exact ok) (fun s0 H D cl fp => ckT_ok (c.c.blk s0 H s D cl fp) h5) (fun s0 H D cl fp => okG fs (c.c.blk s0 H s D cl fp) h6)
      (fun s0 H D cl fp => okE el (c.c.blk s0 H s D cl fp) h7 false) (plain_fold h2 _)
    have w := dn_lc (W := W) (W0 := fun _ _ _ _ => False) (G := G) (X := X) (cg := fs) (ce := el) (it := it) c.c.calm n1 (okI it c.c h1 true) (by rw [c.c.n, c.c.sc]; exact ok) hix (fun s0 H D cl fp => ckT_ok (c.c.blk s0 H s D cl fp) h5) (fun s0 H D cl fp => okG fs (c.c.blk s0 H s D cl fp) h6)
      (fun s0 H D cl fp => okE el (c.c.blk s0 H s D cl fp) h7 false) (plain_fold h2 _)
    rw [em] at z w
    exact z.weak fun D σ H q => tAsg_imp w q
  · cases h
theorem ln_le_lc {X : Cx} {W : WX} {own : List Nat} {tg : CT} {it : CI} {fs : CG} {el : CE} : ∀ σ H Q, LE X.K ct W false (fun er => rd G false er (.lc own tg it fs el)) σ H Q → LN X.K ct W (fun er => rn G er (.lc own tg it fs el)) σ H Q :=
  fun σ H Q ⟨Rf, RH, Hf, δ, k, er, S, qe, r, q⟩ => ⟨Rf, RH, Hf, δ, _, er, S, qe, rd_rn r, fun ds hk l xs Gf J e h1 h2 h3 t => q _ hk _ (upd Gf l (.lst xs)) J (e.frz h3 h2 h1) (Dv.lst upd_same (t.mono (.new h2)))⟩
theorem isLc_ {a : CE} (h : isLc a = true) : ∃ own tg it fs el, a = .lc own tg it fs el := by
  cases a <;> first | exact ⟨_, _, _, _, _, rfl⟩ | cases h
theorem of_beq_false {i j : Nat} (h : (i == j) = false) : i ≠ j := by simpa using h
theorem ok_asg {i : Nat} {a : CE} : OkS G ct (.asg i a) := fun {X W C s} c h => by
  unfold ckS at h
  split at h
  · rename_i x p e pos
    simp only [Bool.and_eq_true, Bool.or_eq_true, Bool.not_eq_true'] at h
    obtain ⟨⟨h1, h2⟩, h3⟩ := h
    obtain ⟨n1, n2, n3, n4⟩ := nmB_ok c.c h1
    cases hs : swB C x p e with
    | false => exact ds_asg (ps_set n1 n2 n3 (okE a c.c h2 false) (sw_name c.c c.hk hs _) n4)
    | true =>
      rw [hs] at h3
      rcases h3 with h3 | h3
      · cases h3
      · obtain ⟨own, tg, it, fs, el, rfl⟩ := isLc_ h3
        exact ds_asg ((setLc c h1 h2 hs).weak fun D σ H q => tAsg_imp ln_le_lc q)
  · cases h
theorem okN {X : Cx} {W : WX} {C : Cc} {a : CE} {e : Expr} (c : CcOk X G ct W C) (h : ckN a C e = true) : PE X e (LN X.K ct W (fun er => rn G er a)) := by
  unfold ckN at h
  split at h
  · rw [ckE] at h
    split at h
    · rename_i l q hv
      have := vLst_ hv
      subst this
      exact dn_lst (okL _ c h false)
    · cases h
  · exact okN_lc (okI _) (okG _) (okE _) c h
  · split at h
    · rename_i ea op eb p hv
      have := vBin_ hv
      subst this
      simp only [Bool.and_eq_true] at h
      obtain ⟨⟨h1, h2⟩, h3⟩ := h
      have := eq_of_beq h1
      subst this
      exact dn_cat (okE _ c h2 true) (okE _ c h3 true)
    · cases h
  · split at h
    · rename_i x p ea q hv
      have := vCall_ hv
      subst this
      simp only [Bool.and_eq_true] at h
      obtain ⟨⟨⟨h1, h2⟩, h3⟩, h4⟩ := h
      have := eq_of_beq h1
      subst this
      obtain ⟨b1, b2⟩ := bltB_ok c h2
      exact dn_listof b1 b2 (okE _ c h4 true) (by rw [star1 h3]; rfl)
    · cases h
  · split at h
    · rename_i ea ei p hv
      have := vSub_ hv
      subst this
      split at h
      · rename_i el eh p2 hv2
        have := vSl_ hv2
        subst this
        simp only [Bool.and_eq_true] at h
        exact dn_slc (okE _ c h.1.1 true) (okP _ c h.1.2) (okP _ c h.2)
      · cases h
    · cases h
  · cases h
theorem ok_own {i : Nat} {a : CE} : OkS G ct (.own i a) := fun {X W C s} c h => by
  unfold ckS at h
  split at h
  · rename_i x p e pos
    simp only [Bool.and_eq_true, Bool.or_eq_true, Bool.not_eq_true'] at h
    obtain ⟨⟨h1, h2⟩, h3⟩ := h
    obtain ⟨n1, n2, n3, n4⟩ := nmB_ok c.c h1
    cases hs : swB C x p e with
    | false => exact ds_own (ps_set n1 n2 n3 (okN c.c h2) (sw_name c.c c.hk hs _) n4)
    | true =>
      rw [hs] at h3
      rcases h3 with h3 | h3
      · cases h3
      · obtain ⟨own, tg, it, fs, el, rfl⟩ := isLc_ h3
        exact ds_own (setLc c h1 h2 hs)
  · cases h
theorem ok_retF {a : CE} : OkS G ct (.retF a) := fun {X W C s} c h => by
  unfold ckS at h
  split at h
  · exact ds_retF (okN c.c h)
  · cases h
theorem ok_new {i : Nat} : OkS G ct (.new i) := fun {X W C s} c h => by
  unfold ckS at h
  split at h
  · obtain ⟨n1, n2, n3, n4⟩ := nmB_ok c.c h
    exact ds_new (ps_set n1 n2 n3 pe_dnewK rfl n4)
  · cases h
theorem ok_unp {is : List Nat} {a : CE} : OkS G ct (.unp is a) := fun {X W C s} c h => by
  unfold ckS at h
  split at h
  · simp only [Bool.and_eq_true] at h
    exact ds_unp (ps_asg (okE a c.c h.1.2 false) (ckT_ok c.c h.1.1) sws_tup (by
      have h2 := h.2
      rw [Bool.or_eq_true] at h2
      rcases h2 with h2 | h2
      · exact stN_ok h2
      · exact stC_ok c.c.sc h2) rfl)
  · cases h
theorem ok_par {i j : Nat} {a b : CE} : OkS G ct (.par i j a b) := fun {X W C s} c h => by
  unfold ckS at h
  split at h
  · simp only [Bool.and_eq_true, Bool.not_eq_true'] at h
    obtain ⟨⟨⟨⟨h1, h2⟩, h3⟩, h4⟩, h5⟩ := h
    obtain ⟨n1, n2, n3, n4⟩ := nmB_ok c.c h1
    obtain ⟨m1, m2, m3, m4⟩ := nmB_ok c.c h2
    obtain ⟨x1, x2, x3⟩ := stX2 c.c.sc c.hk h3
    exact ds_par (ps_par c.c.calm n1 n2 m2 (by simpa using h5) x2 x3 (okL _ c.c h4 false) x1 sws_tup)
  · cases h
theorem ok_par3 {i j l : Nat} {a b d : CE} : OkS G ct (.par3 i j l a b d) := fun {X W C s} c h => by
  unfold ckS at h
  split at h
  · simp only [Bool.and_eq_true, Bool.not_eq_true'] at h
    obtain ⟨⟨⟨⟨⟨⟨⟨h1, h2⟩, h2'⟩, h3⟩, h4⟩, h5⟩, h6⟩, h7⟩ := h
    obtain ⟨n1, n2, n3, n4⟩ := nmB_ok c.c h1
    obtain ⟨m1, m2, m3, m4⟩ := nmB_ok c.c h2
    obtain ⟨k1, k2, k3, k4⟩ := nmB_ok c.c h2'
    obtain ⟨x1, x2, x3, x4⟩ := stX3 c.c.sc c.hk h3
    exact ds_par3 (ps_par3 c.c.calm n1 n2 m2 k2 (by simpa using h5) (by simpa using h6) (by simpa using h7) x2 x3 x4 (okL _ c.c h4 false) x1 sws_tup)
  · cases h
theorem okA {X : Cx} {W : WX} {C : Cc} (c : CcOk X G ct W C) : ∀ {a : CA} {es : List Expr}, ckA a C es = true → PA X es (LSl X.K ct W (fun er => ra G er a))
  | .nil, es, h => by
    unfold ckA at h
    cases es with
    | nil => exact das_nil
    | cons _ _ => cases h
  | .d a r, es, h => by
    unfold ckA at h
    split at h
    · simp only [Bool.and_eq_true] at h
      exact das_d (okE a c h.1.2 false) (okA c h.2) (star1 h.1.1 _ _)
    · cases h
  | .o a r, es, h => by
    unfold ckA at h
    split at h
    · simp only [Bool.and_eq_true] at h
      exact das_o (okN c h.1.2) (okA c h.2) (star1 h.1.1 _ _)
    · cases h
theorem ok_parS {is : List Nat} {a : CA} : OkS G ct (.parS is a) := fun {X W C s} c h => by
  unfold ckS at h
  split at h
  · split at h
    · simp only [Bool.and_eq_true, Bool.not_eq_true'] at h
      obtain ⟨⟨⟨⟨h1, h2⟩, h3⟩, h4⟩, h5⟩ := h
      obtain ⟨n1, n2, n3, n4⟩ := nmB_ok c.c h1
      obtain ⟨m1, m2, m3, m4⟩ := nmB_ok c.c h2
      obtain ⟨x1, x2, x3⟩ := stX2 c.c.sc c.hk h3
      have hij := of_beq_false h5
      exact ds_parS2 hij (ps_par c.c.calm n1 n2 m2 hij x2 x3 (okA c.c h4) x1 sws_tup)
    · cases h
  · split at h
    · simp only [Bool.and_eq_true, Bool.not_eq_true'] at h
      obtain ⟨⟨⟨⟨⟨⟨⟨h1, h2⟩, h2'⟩, h3⟩, h4⟩, h5⟩, h6⟩, h7⟩ := h
      obtain ⟨n1, n2, n3, n4⟩ := nmB_ok c.c h1
      obtain ⟨m1, m2, m3, m4⟩ := nmB_ok c.c h2
      obtain ⟨k1, k2, k3, k4⟩ := nmB_ok c.c h2'
      obtain ⟨x1, x2, x3, x4⟩ := stX3 c.c.sc c.hk h3
      have e1 := of_beq_false h5
      have e2 := of_beq_false h6
      have e3 := of_beq_false h7
      exact ds_parS3 e1 e2 e3 (ps_par3 c.c.calm n1 n2 m2 k2 e1 e2 e3 x2 x3 x4 (okA c.c h4) x1 sws_tup)
    · cases h
  · cases h
theorem ok_app {i : Nat} {a : CE} : OkS G ct (.app i a) := fun {X W C s} c h => by
  unfold ckS at h
  split at h
  · simp only [Bool.and_eq_true] at h
    obtain ⟨⟨⟨⟨h1, h2⟩, h3⟩, h4⟩, h5⟩ := h
    have := eq_of_beq h1
    subst this
    obtain ⟨v1, v2, v3, v4⟩ := varB_ok c.c h2
    exact ds_app v1 v2 v3 v4 (okE a c.c h5 false) (star1 h3 _ _) h4 rfl rfl
  · cases h
theorem ok_ext {i : Nat} {a : CE} : OkS G ct (.ext i a) := fun {X W C s} c h => by
  unfold ckS at h
  split at h
  · simp only [Bool.and_eq_true] at h
    obtain ⟨⟨⟨⟨h1, h2⟩, h3⟩, h4⟩, h5⟩ := h
    have := eq_of_beq h1
    subst this
    obtain ⟨v1, v2, v3, v4⟩ := varB_ok c.c h2
    exact ds_ext v1 v2 v3 v4 (okE a c.c h5 false) (star1 h3 _ _) h4 rfl rfl
  · cases h
theorem ok_extL {is : List Nat} {i : Nat} {a : CE} : OkS G ct (.extL is i a) := fun {X W C s} c h => by
  unfold ckS at h
  split at h
  · simp only [Bool.and_eq_true] at h
    obtain ⟨⟨⟨⟨h1, h2⟩, h3⟩, h4⟩, h5⟩ := h
    have := eq_of_beq h1
    subst this
    obtain ⟨v1, v2, v3, v4⟩ := varB_ok c.c h2
    exact ds_extL v1 v2 v3 v4 (okE a c.c h5 false) (star1 h3 _ _) h4 rfl rfl
  · cases h
theorem ok_apop {i j : Nat} {a : CE} : OkS G ct (.apop i j a) := fun {X W C s} c h => by
  unfold ckS at h
  split at h
  · simp only [Bool.and_eq_true] at h
    obtain ⟨⟨⟨⟨⟨⟨⟨h1, h1'⟩, h2⟩, h2'⟩, h3⟩, h4⟩, h4'⟩, h5⟩ := h
    have := eq_of_beq h1
    subst this
    have := eq_of_beq h1'
    subst this
    obtain ⟨v1, v2, v3, v4⟩ := varB_ok c.c h2
    obtain ⟨w1, w2, w3, w4⟩ := varB_ok c.c h2'
    exact ds_apop v1 v2 v3 v4 w1 w2 w3 w4 (okE a c.c h5 true) (star1 h3 _ _) h4 h4'
  · cases h
theorem asg_sub {o i : Expr} {p : Pos} {env : Env} (h : plainE i = true) : ∀ v, assign (.Subscript o i p) env v = (do
      let ov ← holding [v] (eval o env)
      let iv ← holding [v, ov] (eval i env)
      standAt p
      holding [v, ov, iv] (setItem ov iv v)
      release [v, ov, iv] []) := by
  intro v
  cases i <;> first | rfl | cases h
theorem ok_put {i : Nat} {ix a : CE} : OkS G ct (.put i ix a) := fun {X W C s} c h => by
  unfold ckS at h
  split at h
  · simp only [Bool.and_eq_true] at h
    obtain ⟨⟨⟨h1, h2⟩, h3⟩, h4⟩ := h
    obtain ⟨v1, v2, v3, v4⟩ := varB_ok c.c h1
    exact ds_put (ix := .Name ⟨#[]⟩ ⟨0, 0, 0, 0⟩) (ps_asg (okE a c.c h4 false) (pg_sub (pe_var v1 v2 v3 v4) (okE ix c.c h3 true) set_list (asg_sub h2)) sws_sub rfl rfl)
  · cases h
theorem ok_dput {i : Nat} {ix a : CE} : OkS G ct (.dput i ix a) := fun {X W C s} c h => by
  unfold ckS at h
  split at h
  · simp only [Bool.and_eq_true] at h
    obtain ⟨⟨⟨h1, h2⟩, h3⟩, h4⟩ := h
    obtain ⟨v1, v2, v3, v4⟩ := varB_ok c.c h1
    have hu := c.c.un
    exact ds_dput (ix := .Name ⟨#[]⟩ ⟨0, 0, 0, 0⟩) (ps_dput (by omega) (pe_var v1 v2 v3 v4) (okE ix c.c h3 true) (okE a c.c h4 false) (sw_sub _ _))
  · cases h
theorem ok_aug {i : Nat} {o : Bool} {a : CE} : OkS G ct (.aug i o a) := fun {X W C s} c h => by
  unfold ckS at h
  split at h
  · simp only [Bool.and_eq_true] at h
    obtain ⟨⟨h1, h2⟩, h3⟩ := h
    have := eq_of_beq h2
    subst this
    obtain ⟨n1, n2, n3, n4⟩ := nmB_ok c.c h1
    refine ds_aug (op := .Add) ?_
    cases o with
    | true => exact ps_aug n1 n2 n3 (okE a c.c h3 true) ip_add n4
    | false => exact ps_aug n1 n2 n3 (okE a c.c h3 true) ip_sub n4
  · cases h
theorem ok_exp {a : CE} : OkS G ct (.exp a) := fun {X W C s} c h => by
  unfold ckS at h
  split at h
  · simp only [Bool.and_eq_true] at h
    exact ds_exp (sh := true) (ps_expr (okE a c.c h.2 true) (sw_none h.1 _ _))
  · cases h
theorem ok_ifs {q : CQ} {a b : CB} (ha : OkB G ct a) (hb : OkB G ct b) : OkS G ct (.ifs q a b) := fun {X W C s} c h => by
  unfold ckS at h
  split at h
  · simp only [Bool.and_eq_true] at h
    exact ds_ifs (okQ q c.c h.1.1) (ha c h.1.2) (hb c h.2)
  · cases h
theorem ok_for {t : CT} {it : CI} {b : CB} (hb : OkB G ct b) : OkS G ct (.for_ t it b) := fun {X W C s} c h => by
  unfold ckS at h
  split at h
  · simp only [Bool.and_eq_true] at h
    obtain ⟨⟨⟨h1, h2⟩, h3⟩, h4⟩ := h
    exact ds_for c.hp c.c.calm (okI it c.c h2 false) (ckT_ok c.c h1) (hb c h4) (plain_fold h3 _)
  · cases h
theorem ok_whl {q : CQ} {b : CB} (hb : OkB G ct b) : OkS G ct (.whl q b) := fun {X W C s} c h => by
  unfold ckS at h
  split at h
  · simp only [Bool.and_eq_true] at h
    exact ds_whl c.hp (okQ q c.c h.1) (hb c h.2)
  · cases h
theorem ok_ret {a : CE} : OkS G ct (.ret a) := fun {X W C s} c h => by
  unfold ckS at h
  split at h
  · exact ds_ret (okE a c.c h false)
  · cases h
theorem ok_retN : OkS G ct .retN := fun {X W C s} c h => by
  unfold ckS at h
  split at h
  · exact ds_retN
  · cases h
theorem ok_pass : OkS G ct .pass := fun {X W C s} c h => by
  unfold ckS at h
  split at h
  · exact ds_pass
  · cases h
theorem ok_brk : OkS G ct .brk := fun {X W C s} c h => by
  unfold ckS at h
  split at h
  · exact ds_brk
  · cases h
theorem ok_cnt : OkS G ct .cnt := fun {X W C s} c h => by
  unfold ckS at h
  split at h
  · exact ds_cnt
  · cases h
theorem ok_bcons {a : CS} {r : CB} (ha : OkS G ct a) (hr : OkB G ct r) : OkB G ct (.cons a r) := fun {X W C s} c h => by
  have main : ckB (.cons a r) C s = true → (∀ i, a ≠ .frz i) → PSs X s (LS X.K ct W (fun er => wb G er (.cons a r))) := by
    intro h hf
    cases s with
    | nil => cases a <;> first | exact absurd rfl (hf _) | (simp only [ckB] at h; cases h)
    | cons st ss =>
      have h' : ckS a C st = true ∧ ckB r C ss = true := by
        rw [← Bool.and_eq_true]
        cases a <;> first | exact absurd rfl (hf _) | (simp only [ckB] at h; exact h)
      exact dss_cons (ha c h'.1) (hr c h'.2)
  by_cases hf : ∃ i, a = .frz i
  · obtain ⟨i, rfl⟩ := hf
    simp only [ckB] at h
    exact ds_frz (hr c h)
  · exact main h fun i z => hf ⟨i, z⟩
theorem ok_bnil : OkB G ct .nil := fun {X W C s} c h => by
  cases s with
  | nil => exact dss_nil
  | cons _ _ => simp only [ckB] at h; cases h
mutual
theorem okS : ∀ a : CS, OkS G ct a
  | .asg _ _ => ok_asg
  | .own _ _ => ok_own
  | .frz _ => fun c h => by unfold ckS at h; cases h
  | .new _ => ok_new
  | .unp _ _ => ok_unp
  | .par _ _ _ _ => ok_par
  | .par3 _ _ _ _ _ _ => ok_par3
  | .app _ _ => ok_app
  | .parS _ _ => ok_parS
  | .ext _ _ => ok_ext
  | .extL _ _ _ => ok_extL
  | .apop _ _ _ => ok_apop
  | .put _ _ _ => ok_put
  | .dput _ _ _ => ok_dput
  | .aug _ _ _ => ok_aug
  | .exp _ => ok_exp
  | .ifs _ a b => ok_ifs (okB a) (okB b)
  | .for_ _ _ b => ok_for (okB b)
  | .whl _ b => ok_whl (okB b)
  | .ret _ => ok_ret
  | .retN => ok_retN
  | .retF _ => ok_retF
  | .pass => ok_pass
  | .brk => ok_brk
  | .cnt => ok_cnt
  | .bad => fun _ _ => ds_bad
theorem okB : ∀ b : CB, OkB G ct b
  | .nil => ok_bnil
  | .cons a r => ok_bcons (okS a) (okB r)
end
end
end FR

/-! FrR: a def's promise from the look at its text; the law's own call -/
namespace FR
open PySem L2 PyProof.Rows

section
variable {P : Program} {w : World} {K : PySem.W.Frag} {mg : Str → Option Value} {base : Heap} {k : Nat} {f : Addr} {fd : FuncData} {ps N : List Str} {sp : Sp}
/-- a def keeps its promise where no guard is on the stack -/
theorem fnG_of {name qual : Str} {params : Arguments} {body : List Stmt} {scope : Scope} {dV kV doc pm cdv ct oc : Value} {an od : Option Addr} {osl : Array (Option Value)}
    (lk : K.lookup f = some ⟨oc, od, .func (PySem.W.fnOf name qual params body scope dV kV doc pm an cdv ct), osl⟩) (hcd : PySem.W.codeIn K cdv qual = true) (S : FnScope N ps scope) (len : ∀ vs H Q E, sp vs H Q E → vs.length = ps.length)
    (hbody : ∀ (A : Around) (outer : List Env) (s : Shared) (H : Hp) (vs : List V) (Q : VK) (E : XK), Room k (A.deeper (envOfC qual scope s.heap.objs.size f cdv)) → A.guards = some [] → sp vs H Q E →
      ∃ t, PSs (cxOf (L2.CX P w) P w K mg base N qual scope f cdv A outer s H E) body t ∧ t { nx := fun _ H' => Q .non H', rt := Q } (L2.start N vs) H) :
    FnG P w K mg base (k + 1) f (PySem.W.fnOf name qual params body scope dV kV doc pm an cdv ct) ps sp where
  len := len
  run := fun A outer s H args us vs Q E hr hg e0 hb r hsp => by
    have KX : K.In s.heap := e0.mod.kin.keeps fun b o e => (e0.bs b o e).1
    have hkind : ∀ y ∈ ps.zip us, scope.names.lookup y.1 = some .local ∨ (scope.names.lookup y.1 = some .cell ∧ ((cellsFrom (s.heap.objs.size + 1) scope.names []).lookup y.1).isSome = true) := by
      rintro ⟨n, v⟩ hy
      exact (S.par n (List.of_mem_zip hy).1).imp id fun q => ⟨q, PySem.W.cellsFrom_some _ _ _ (.inl q)⟩
    refine codeAny_call_function hr.depth (KX _ _ lk) rfl S.co S.gen rfl (PySem.W.codeRec_of KX hcd) (hb _ _ _ _ (wpAny_newFunctionEnv_cells S.kind hkind fun env he s1 x => ?_))
    subst he
    refine ⟨(e0.mod.nolimit.keeps fun b o e => (e0.bs b o e).1).keeps x.toInCall.keep, codeAny_func ?_⟩
    obtain ⟨t, ht, hq⟩ := hbody A outer s H vs Q E (hr.deeper _) hg hsp
    refine wpAny_mono (ht.run [] s1 (L2.start N vs) H _ (inv_start S hr.hd e0 (len _ _ _ _ hsp) r x) hq) (fun fl s' hs => ?_) fun e s' hs => hs
    cases fl with
    | ret u => obtain ⟨v, σ', H', J, rv, q⟩ := hs; exact ⟨v, H', J.os, J.bare, J.base, J.hok, rv, q⟩
    | next => obtain ⟨σ', H', J, q⟩ := hs; exact ⟨V.non, H', J.os, J.bare, J.base, J.hok, rfl, q⟩
    | brk => obtain ⟨_, _, _, q⟩ := hs; exact q.elim
    | cont => obtain ⟨_, _, _, q⟩ := hs; exact q.elim
/-- the slots at a def's entry -/
def startD (N : List Str) (ds : List D) : List Sl := ds.map .d ++ List.replicate (N.length - ds.length) .no
theorem start_sd {Hf H : Hp} {vs : List V} {ds : List D} (sub : Ex Hf H) (t : DvA K Hf vs ds) : SD K Hf H Hf H (L2.start N vs) (startD N ds) := by
  have hl := t.length
  refine ⟨.refl sub, ?_, fun i s o h1 h2 => ?_, fun i j s t' l h1 h2 o1 => ?_⟩
  · unfold L2.start startD
    rw [List.length_append, List.length_append, List.length_map, List.length_map, List.length_replicate, List.length_replicate, hl]
  · unfold startD at h1
    unfold L2.start at h2
    by_cases hi : i < ds.length
    · rw [List.getElem?_append_left (by rw [List.length_map]; exact hi), List.getElem?_map] at h1
      rw [List.getElem?_append_left (by rw [List.length_map, hl]; exact hi), List.getElem?_map] at h2
      cases e : ds[i]? with
      | none => rw [e] at h1; cases h1
      | some d =>
        rw [e] at h1
        obtain ⟨v, e1, e2⟩ := t.get e
        rw [e1] at h2
        cases h1; cases h2
        exact ⟨v, rfl, e2⟩
    · rw [List.getElem?_append_right (by rw [List.length_map]; omega), List.getElem?_replicate] at h1
      split at h1
      · cases h1; trivial
      · cases h1
  · exfalso
    unfold startD at h1
    by_cases hi : i < ds.length
    · rw [List.getElem?_append_left (by rw [List.length_map]; exact hi), List.getElem?_map] at h1
      cases e : ds[i]? with
      | none => rw [e] at h1; cases h1
      | some d => rw [e] at h1; cases h1; cases o1
    · rw [List.getElem?_append_right (by rw [List.length_map]; omega), List.getElem?_replicate] at h1
      split at h1
      · cases h1; cases o1
      · cases h1

/-! ### a def by its look -/
/-- what is known of a def of the text, at level k, over every base -/
def DefG (P : Program) (w : World) (K : PySem.W.Frag) (mg : Str → Option Value) (base : Heap) (G : Ctx) (ct : ErT) (k : Nat) (x : Str) : Prop :=
  ∃ (fs : FS) (f : Addr) (fd : FuncData) (ps : List Str), G.fn x = some fs ∧ mg x = some (.ref f) ∧ PySem.W.keepIn K (.ref f) = true ∧ FnG P w K mg base k f fd ps (spG K ct ps.length fs) ∧
    ∀ n ks src, shapeOf G x n ks = some src → src.length = ps.length ∧ ∃ du : Nat → Value, (∀ j l, Src.c j l ∈ src → RelV l.v (du j)) ∧ ∀ (s : Shared) (us ws : List Value), K.In s.heap → us.length = n → ws.length = ks.length → BindsTo s fd ⟨us, ks.zip ws⟩ (ps.zip (src.map (Src.uu du us ws)))
theorem DefG.mono {G : Ctx} {ct : ErT} {j k : Nat} {x : Str} (h : DefG P w K mg base G ct j x) (hj : j ≤ k) : DefG P w K mg base G ct k x := by
  obtain ⟨fs, f, fd, ps, a, b, c, F, d⟩ := h
  exact ⟨fs, f, fd, ps, a, b, c, F.mono hj, d⟩
/-- what is known around the defs -/
structure Env1 (P : Program) (w : World) (K : PySem.W.Frag) (mg : Str → Option Value) (base : Heap) (G : Ctx) (ct : ErT) (k : Nat) (C : Cc) : Prop where
  bl : ∀ x, C.bl.contains x = true → mg x = none
  df : ∀ x, C.df.contains x = true → DefG P w K mg base G ct k x
  gls : ∀ x, C.gls.contains x = true → ∃ d v u, mg x = some u ∧ RelV v u ∧ G.gl x = some d ∧ ∀ H, Dv K H v d
theorem def_ok {G : Ctx} {ct : ErT} {x qual : Str} {params : Arguments} {body : List Stmt} {scope : Scope} {dvs : List V} {kws : List (Str × V)} {fs : FS} {cb : CB} {C : Cc}
    (F : FunD K x qual params body scope dvs kws f fd) (E1 : Env1 P w K mg base G ct k C) (S : FnScope C.N ps scope) (hsc : C.sc = scope) (hcel : C.cel = C.N) (hck : ckB cb C body = true)
    (hlaw : ∀ ds kd er, ds.length = ps.length → fs ds kd er → wb G er cb { nx := fun _ => kd .none, rt := kd, rf := fun xs => kd (.list xs) } (startD C.N ds)) : FnG P w K mg base (k + 1) f fd ps (spG K ct ps.length fs) := by
  obtain ⟨oc, od, dV, kV, doc, pm, an, cdv, ct', osl, rfl, lk, hcd, _, _⟩ := F.ex
  refine fnG_of lk hcd S (fun vs H Q E h => h.1) fun A outer s H vs Q E hr hg ⟨hl, Hf, ds, kd, er, sub, dv, hfs, hk, he⟩ => ?_
  refine ⟨LS K ct (fun c d _ G => E c d G) (fun er => wb G er cb), ?_, Hf, H, Hf, startD C.N ds, er, { nx := fun _ => kd .none, rt := kd, rf := fun xs => kd (.list xs) }, start_sd sub dv, fun σ => he, hlaw ds kd er (by rw [← dv.length]; exact hl) hfs, ?_⟩
  · have un := hr.un
    refine okB (G := G) (ct := ct) cb (C := C) (X := cxOf (L2.CX P w) P w K mg base C.N qual scope f cdv A outer s H E) ⟨⟨rfl, S.nd, hsc.symm, rfl, hg, ?_, ?_, E1.bl, fun x h => ?_, E1.gls, fun _ _ => rfl⟩, passes_of rfl, S.kind⟩ hck
    · show (A.deeper _).units + 66 < cLine
      omega
    · exact takes_of rfl rfl rfl rfl
    · obtain ⟨fs, f, fd, ps, a, b, c, F, d⟩ := E1.df x h
      exact ⟨⟨fs, f, fd, ps, k, a, b, c, F, hr, d⟩⟩
  · exact ⟨fun δ' σ' Gf J h S' => hk _ h _ _ _ S'.ext .non, fun d v Gf J h e hv => hk d h v Gf J e hv, fun _ _ _ _ h _ => h.elim, fun _ _ _ _ h _ => h.elim, fun xs l vs Gf J h e h1 h2 h3 t => hk _ h _ _ _ (e.frz h3 h2 h1) (Dv.lst upd_same (t.mono (.new h2)))⟩
/-- how one shape of a call binds -/
def Good (K : PySem.W.Frag) (fd : FuncData) (ps : List Str) (n : Nat) (ks : List Str) (src : List Src) : Prop :=
  src.length = ps.length ∧ ∃ du : Nat → Value, (∀ j l, Src.c j l ∈ src → RelV l.v (du j)) ∧ ∀ (s : Shared) (us ws : List Value), K.In s.heap → us.length = n → ws.length = ks.length → BindsTo s fd ⟨us, ks.zip ws⟩ (ps.zip (src.map (Src.uu du us ws)))
def Src.notC : Src → Bool
  | .c _ _ => false
  | _ => true
theorem good0 {x qual : Str} {params : Arguments} {body : List Stmt} {scope : Scope} {kws : List (Str × V)} {n : Nat} {ks : List Str} {src : List Src} (F : FunD K x qual params body scope [] kws f fd) (hl : src.length = ps.length) (hc : src.all Src.notC = true)
    (h : ∀ (kV doc pm : Value) (an : Option Addr) (cdv ct : Value) (us ws : List Value), us.length = n → ws.length = ks.length → bindArgs (PySem.W.fnOf x qual params body scope .none kV doc pm an cdv ct) ⟨us, ks.zip ws⟩ = pure (ps.zip (src.map (Src.uu (fun _ => .none) us ws)))) : Good K fd ps n ks src := by
  obtain ⟨oc, od, dV, kV, doc, pm, an, cdv, ct, osl, rfl, lk, hcd, hD, hK⟩ := F.ex
  rcases hD with ⟨_, rfl⟩ | ⟨e, _⟩
  · exact ⟨hl, fun _ => .none, fun j l m => (Bool.false_ne_true (List.all_eq_true.mp hc _ m)).elim, fun s us ws _ l1 l2 => .of_eq (h kV doc pm an cdv ct us ws l1 l2)⟩
  · exact absurd rfl e
theorem defG_of {G : Ctx} {ct : ErT} {x : Str} {fs : FS} {l : List (Nat × List Str × List Src)} (h1 : G.fn x = some fs) (h2 : mg x = some (.ref f)) (h3 : PySem.W.keepIn K (.ref f) = true) (F : FnG P w K mg base k f fd ps (spG K ct ps.length fs))
    (h4 : G.sh.lookup x = some l) (h5 : ∀ q ∈ l, Good K fd ps q.1 q.2.1 q.2.2) : DefG P w K mg base G ct k x := by
  refine ⟨fs, f, fd, ps, h1, h2, h3, F, fun n ks src h => ?_⟩
  unfold shapeOf at h
  rw [h4] at h
  dsimp only at h
  cases e : l.find? fun q => decide (q.1 = n ∧ q.2.1 = ks) with
  | none => rw [e] at h; cases h
  | some q =>
    rw [e] at h
    cases h
    have m := List.mem_of_find?_eq_some e
    have g := h5 q m
    have z := List.find?_some e
    simp only [decide_eq_true_eq] at z
    obtain ⟨z1, z2⟩ := z
    rw [z1, z2] at g
    exact g
end
/-! ### the law's own call -/
theorem law_callG {P : Program} {w : World} {K : PySem.W.Frag} {mg mb : Str → Option Value} {k : Nat} {fa a : Addr} {fd : FuncData} {x : Str} {sp : Sp} {s₁ : Shared} {vs : List Value} {ns : List Int}
    (KX : K.In s₁.heap) (hns : s₁.heap.Ns mainGlobals mg) (hb : s₁.heap.Ns builtinsNs mb) (hbb : ∀ x : Str, x ≠ "__name__" → mb x = bootBuiltins x) (hlim : s₁.heap.NoLimit) (hg : s₁.gens = #[])
    (ha : s₁.heap.get? a = some { cls := .type "list", data := .seq vs.toArray }) (hi : IntsAre vs ns) (hl : ns.length ≤ sizeLine) (hr : Room k callerA)
    (F : ∀ base : Heap, K.In base → base.Ns mainGlobals mg → FnG P w K mg base k fa fd [x] sp) (hbind : ∀ (s : Shared) (u : Value), BindsTo s fd ⟨[u], []⟩ [(x, u)])
    (hsp : ∀ H : Hp, SqL K H a (ns.map V.int) → sp [.ref a] H (fun v _ => v = .bl true) fun _ _ _ => False) :
    codeAny (model P w) callerA (.call (.ref fa) ⟨[.ref a], []⟩) (fun r s' => r = .ok (.ret (.bool true)) ∧ OldK s₁.heap s'.heap ∧ s'.os = s₁.os ∧ AllBare s'.gens) s₁ := by
  have rv := vals_ints hi
  have lenV := hi.length
  have core : ∀ H : Hp, Only H → SqL K H a (ns.map V.int) → HOk P w H s₁.heap → (∀ b, H b ≠ none → b = a) → (H a ≠ none → K.lookup a = none) →
      codeAny (model P w) callerA (.call (.ref fa) ⟨[.ref a], []⟩) (fun r s' => r = .ok (.ret (.bool true)) ∧ OldK s₁.heap s'.heap ∧ s'.os = s₁.os ∧ AllBare s'.gens) s₁ := by
    intro H hO hS hok hA hK
    have noA : ∀ {b : Addr} {o : Obj} {es : Array DictEntry} {ep : Nat}, s₁.heap.get? b = some o → o.data = .dict es ep → H b = none := by
      intro b o es ep e d
      refine Classical.byContradiction fun z => ?_
      have := hA b z
      subst this
      rw [ha] at e
      cases e
      exact nomatch d
    have nsK : ∀ {b : Addr} {m : Str → Option Value}, s₁.heap.Ns b m → (hidT s₁.heap H).Ns b m := fun {b m} ⟨o, es, ep, e, d, r⟩ => ⟨o, es, ep, hidT_get e (noA e d), d, r⟩
    have hKb : K.In (hidT s₁.heap H) := fun b o e => hidT_get (KX b o e) (Classical.byContradiction fun z => by
      have e' := hA b z
      subst e'
      rw [hK z] at e
      cases e)
    have hM : Mod K mg (hidT s₁.heap H) := ⟨hKb, nsK hns, ⟨mb, nsK hb, hbb⟩, let ⟨mc, h1, h2⟩ := hlim; ⟨mc, nsK h1, h2⟩⟩
    have e0 : Env0 P w K mg (hidT s₁.heap H) callerA [] s₁ H := ⟨rfl, hM, fun b o e => of_hidT e, Nat.le_of_eq (hidT_size _ _), trivial, fun b hb => absurd (show b ∈ ([] : List Addr) from hb) (by simp), hok, .of_eq hg⟩
    refine codeAny_mono ((F _ hKb (nsK hns)).run callerA [] s₁ H ⟨[.ref a], []⟩ [.ref a] [.ref a] _ _ hr rfl e0 (hbind s₁ (.ref a)) (.cons rfl .nil) (hsp H hS)) fun r s' h => ?_
    cases r with
    | error e => obtain ⟨_, _, _, _, _, _, _, _, _, _, _, _, z⟩ := h; exact z.elim
    | ok fl =>
      cases fl with
      | next => exact False.elim h
      | brk => exact False.elim h
      | cont => exact False.elim h
      | ret u =>
        obtain ⟨v, H', os, bare, un, hok', r', q⟩ := h
        have q' : v = .bl true := q
        subst q'
        obtain rfl : u = Value.bool true := r'
        refine ⟨rfl, OldK.of_keep fun b o e => ?_, os, bare⟩
        cases q : H b with
        | none => exact un.keep b o e q (by intro z; exact absurd (show b ∈ ([] : List Addr) from z) (by simp)) (by simp)
        | some u =>
          rcases hO b with z | ⟨ob, xs, z⟩
          · rw [q] at z; cases z
          · have z2 := un.frzs b ob _ z
            obtain ⟨e1, _⟩ := hok b _ z
            obtain ⟨e2, _⟩ := hok' b _ z2
            rw [e] at e1; cases e1
            exact e2
  cases hk : K.lookup a with
  | some o =>
    have e := KX a o hk
    rw [ha] at e
    cases e
    exact core (fun _ => none) (fun _ => .inl rfl) (.inr ⟨_, vs.toArray, _, hk, rfl, rfl, rfl, by rw [List.size_toArray, lenV]; exact hl, by simpa using rv⟩) (fun b u z => nomatch (show (none : Option HO) = some u from z)) (fun b z => absurd rfl z) fun z => absurd rfl z
  | none =>
    let H : Hp := fun b => if b = a then some (.frz { cls := .type "list", data := .seq vs.toArray } (.lst (ns.map V.int))) else none
    have H1 : H a = some (.frz { cls := .type "list", data := .seq vs.toArray } (.lst (ns.map V.int))) := if_pos rfl
    have H2 : ∀ b, b ≠ a → H b = none := fun b n => if_neg n
    refine core H (fun b => ?_) (.inl (.inr ⟨_, H1⟩)) (fun b u z => ?_) (fun b z => Classical.byContradiction fun n => z (H2 b n)) fun _ => hk
    · by_cases hb : b = a
      · subst hb; exact .inr ⟨_, _, H1⟩
      · exact .inl (H2 b hb)
    · by_cases hb : b = a
      · subst hb
        rw [H1] at z
        cases z
        exact ⟨ha, by rw [List.length_map]; exact hl, vs, _, rv, ha⟩
      · rw [H2 b hb] at z; cases z
/-- the walk, from the law's promise -/
theorem walk_ofG {l : PySem.W.OpenLaw} {n k : Nat} {q : Program} {loose : List Str} {XP : (Str → Option Value) → Heap → Prop} {YP : World → Heap → Prop} {d : DefRec} {x : Str}
    (hn : l.most = some n) (hn2 : n ≤ sizeLine) (hdf : d.params.defaults = []) (hr : Room k callerA)
    (F : ∀ (w : World) (mg : Str → Option Value) (fa : Addr) (h : Heap), YP w h → h.Ns mainGlobals mg → mg d.name = some (.ref fa) →
      ∃ (K : PySem.W.Frag) (fd : FuncData) (sp : Sp), K.In h ∧ (∀ (s : Shared) (u : Value), BindsTo s fd ⟨[u], []⟩ [(x, u)]) ∧
        (∀ (H : Hp) (a : Addr) (ns : List Int), ns.length ≤ n → SqL K H a (ns.map V.int) → sp [.ref a] H (fun v _ => v = .bl true) fun _ _ _ => False) ∧
        ∀ base : Heap, K.In base → base.Ns mainGlobals mg → FnG l.prog w K mg base k fa fd [x] sp) :
    PySem.W.WalkO q loose XP YP l.row.toRowW d [] (fun f vs => PySem.call f vs) := by
  refine Att.attach_call hn hdf fun w s₀ s₁ mg mb fa o pm cd doc a vs ns G Y ho hd hcd hmg hobj hints hlen hg => ?_
  obtain ⟨K, fd, sp, KX, hb, hsp, hF⟩ := F w mg fa _ Y G.T.g hmg
  exact law_callG KX G.T.g G.T.b G.T.builtins G.T.nolimit hg hobj hints (Nat.le_trans hlen hn2) hr hF hb fun H hS => hsp H a ns hlen hS
end FR

/-! FrS: the source of draws (printed in part by genS.py) -/
namespace FR
open PySem L2 PyProof.Rows

def WOk (i j : Int) : Prop := 0 ≤ i ∧ -(2 ^ 40) < j ∧ j < 2 ^ 40
abbrev wLst (i j k : Int) : HO := .lst [.int i, .int j, .int k]
theorem divP {i j : Int} (h : 1 ≤ j) (h2 : j < 1152921504606846976) : CDivP i j := ⟨by omega, PyProof.noPylong_of_log2 (wide_div (i := i) (b := 60) (by omega) (by omega) (by decide) (by decide)).2⟩
section
variable {X : Cx} {pins : List (Addr × Obj)} {σ : L2.St} {H : Hp} {s : Shared} {a : Addr}
/-- a source of draws, seen as a list -/
theorem well_open (I : L2.Inv X pins σ H s) (h : H a = some (.ext (WellP a))) : ∃ i j k, WOk i j ∧ L2.Inv X pins σ (upd H a (wLst i j k)) s := by
  obtain ⟨⟨i, j, k, t, u, v, n, h0, h1, h2, e⟩, _, _⟩ := I.hok a _ h
  refine ⟨i, j, k, ⟨h0, h1, h2⟩, I.write (x := a) (e := a) (t' := s.toks) (h' := s.heap) (by rw [h]; trivial) (.inl rfl) (fun b v _ q => q) ⟨_, e⟩ ?_⟩
  exact ⟨by rw [sizeLine_eq]; show 3 ≤ _; decide, [.int i t, .int j u, .int k v], n, .cons ⟨_, rfl⟩ (.cons ⟨_, rfl⟩ (.cons ⟨_, rfl⟩ .nil)), e⟩
/-- such a list, sealed -/
theorem well_close {i j k : Int} (I : L2.Inv X pins σ H s) (h : H a = some (wLst i j k)) (ok : WOk i j) : L2.Inv X pins σ (upd H a (.ext (WellP a))) s := by
  obtain ⟨_, its, n, r, e⟩ := I.hok a _ h
  refine I.write (x := a) (e := a) (t' := s.toks) (h' := s.heap) (by rw [h]; trivial) (.inl rfl) (fun b v _ q => q) ⟨_, e⟩ ?_
  cases r with
  | cons r1 r => cases r with
    | cons r2 r => cases r with
      | cons r3 r =>
        cases r
        obtain ⟨t, rfl⟩ := r1
        obtain ⟨u, rfl⟩ := r2
        obtain ⟨v, rfl⟩ := r3
        refine ⟨⟨i, j, k, t, u, v, n, ok.1, ok.2.1, ok.2.2, e⟩, ⟨_, e⟩, fun h1 h2 ⟨i, j, k, t, u, v, n, q0, q1, q2, q⟩ st => ⟨i, j, k, t, u, v, n, q0, q1, q2, st _ q⟩⟩
end
def tOpenW (t : TS) : TS := fun D σ H => ∃ a, H a = some (.ext (WellP a)) ∧ ∀ i j k, WOk i j → t { nx := fun _ _ => False, rt := fun v H' => ∃ i j k, WOk i j ∧ H' a = some (wLst i j k) ∧ D.rt v (upd H' a (.ext (WellP a))) } σ (upd H a (wLst i j k))
def tCloseW (t : TS) : TS := fun D σ H => t { nx := fun _ _ => False, rt := fun v H' => ∃ a i j k, v = .ref a ∧ WOk i j ∧ H' a = some (wLst i j k) ∧ D.rt v (upd H' a (.ext (WellP a))) } σ H
theorem pss_open {X : Cx} {sts : List Stmt} {t : TS} (h : PSs X sts t) : PSs X sts (tOpenW t) := by
  refine ⟨fun pins s σ H D I ⟨a, ha, q⟩ => ?_⟩
  obtain ⟨i, j, k, ok, I1⟩ := well_open I ha
  refine thn (h.run pins s σ _ _ I1 (q i j k ok)) fun f s1 z => ?_
  cases f with
  | next => obtain ⟨_, _, _, z⟩ := z; exact z.elim
  | brk => obtain ⟨_, _, _, z⟩ := z; exact z.elim
  | cont => obtain ⟨_, _, _, z⟩ := z; exact z.elim
  | ret v => obtain ⟨x, σ', H', I2, r, i, j, k, ok, e, z⟩ := z; exact ⟨x, σ', _, well_close I2 e ok, r, z⟩
theorem pss_close {X : Cx} {sts : List Stmt} {t : TS} (h : PSs X sts t) : PSs X sts (tCloseW t) := by
  refine ⟨fun pins s σ H D I q => ?_⟩
  refine thn (h.run pins s σ _ _ I q) fun f s1 z => ?_
  cases f with
  | next => obtain ⟨_, _, _, z⟩ := z; exact z.elim
  | brk => obtain ⟨_, _, _, z⟩ := z; exact z.elim
  | cont => obtain ⟨_, _, _, z⟩ := z; exact z.elim
  | ret v => obtain ⟨x, σ', H', I2, r, a, i, j, k, _, ok, e, z⟩ := z; exact ⟨x, σ', _, well_close I2 e ok, r, z⟩
theorem ext_well {Hf H H' : Hp} {a : Addr} (sub : Ex Hf H) (h : H a = some (.ext (WellP a))) (hx : ∀ b o, b ≠ a → H b = some o → H' b = some o) : Ext Hf H Hf (upd H' a (.ext (WellP a))) := by
  have e : Ex H (upd H' a (.ext (WellP a))) := fun b o q => by
    by_cases n : b = a
    · subst n; rw [upd_same]; rw [h] at q; exact q
    · rw [upd_ne n]; exact hx b o n q
  exact ⟨e, .refl _, sub.trans e, fun _ _ => rfl⟩

/-! ### a draw -/
/-- a draw below top -/
def pickFS : FS := fun ds kd _ => ∃ top : Int, ds = [wellD, .int top] ∧ (1 ≤ top ∧ top < 1152921504606846976) ∧ ∀ m : Int, 0 ≤ m → m < top → kd (.int m)

theorem pick_body {X : Cx} {x0 x1 x2 : Str} {p1 p2 p3 p4 p5 p6 p7 p8 p9 p10 p11 p12 p13 p14 p15 p16 p17 p18 p19 p20 p21 p22 p23 p24 p25 p26 p27 p28 p29 p30 p31 p32 p33 p34 p35 p36 p37 p38 p39 p40 p41 p42 p43 p44 p45 p46 p47 p48 p49 p50 p51 p52 p53 p54 p55 p56 p57 p58 : Pos} (hc : X.calm = true) (hN : X.N.Nodup) (e0 : X.N[0]? = some x0) (e1 : X.N[1]? = some x1) (e2 : X.N[2]? = some x2)
    (l0 : X.env.scope.names.lookup x0 = some .local) (l1 : X.env.scope.names.lookup x1 = some .local) (l2 : X.env.scope.names.lookup x2 = some .local)
    (d0 : (x0 == ("__debug__" : Str)) = false) (c0 : (x0 == ("__classdict__" : Str)) = false) (d1 : (x1 == ("__debug__" : Str)) = false) (c1 : (x1 == ("__classdict__" : Str)) = false) (d2 : (x2 == ("__debug__" : Str)) = false) (c2 : (x2 == ("__classdict__" : Str)) = false)
    (gd : Gl X "divmod") (gi : Gl X "int") (md : X.mg "divmod" = none) (mi : X.mg "int" = none) :
    ∃ t, PSs X [ (Stmt.If (test := (Expr.Compare (left := (Expr.Subscript (value := (Expr.Name x0 p1)) (slice := (Expr.Constant (Const.int 0) 0 p2)) (pos := p3))) (ops := [CmpOp.Gt]) (comparators := [(Expr.Constant (Const.int 0) 0 p4)]) (pos := p5))) (body := [ (Stmt.Assign (targets := [ (Expr.Tuple (elts := [ (Expr.Subscript (value := (Expr.Name x0 p6)) (slice := (Expr.Constant (Const.int 0) 0 p7)) (pos := p8)), (Expr.Name x2 p9)]) (k := 0) (pos := p10))]) (value := (Expr.Call (func := (Expr.Name "divmod" p11)) (args := [ (Expr.Subscript (value := (Expr.Name x0 p12)) (slice := (Expr.Constant (Const.int 0) 0 p13)) (pos := p14)), (Expr.Name x1 p15)]) (keywords := []) (pos := p16))) (pos := p17)), (Stmt.Return (some (Expr.Name x2 p18)) p19)]) (orelse := []) (pos := p20)), (Stmt.Assign (targets := [ (Expr.Subscript (value := (Expr.Name x0 p21)) (slice := (Expr.Constant (Const.int 2) 0 p22)) (pos := p23))]) (value := (Expr.BinOp (left := (Expr.Subscript (value := (Expr.Name x0 p24)) (slice := (Expr.Constant (Const.int 2) 0 p25)) (pos := p26))) (op := Operator.Add) (right := (Expr.Constant (Const.int 1) 0 p27)) (pos := p28))) (pos := p29)), (Stmt.Assign (targets := [ (Expr.Subscript (value := (Expr.Name x0 p30)) (slice := (Expr.Constant (Const.int 1) 0 p31)) (pos := p32))]) (value := (Expr.BinOp (left := (Expr.Call (func := (Expr.Name "int" p33)) (args := [ (Expr.BinOp (left := (Expr.BinOp (left := (Expr.Subscript (value := (Expr.Name x0 p34)) (slice := (Expr.Constant (Const.int 1) 0 p35)) (pos := p36))) (op := Operator.Mult) (right := (Expr.Constant (Const.int 48271) 0 p37)) (pos := p38))) (op := Operator.Add) (right := (Expr.BinOp (left := (Expr.Constant (Const.int 1013) 0 p39)) (op := Operator.Mult) (right := (Expr.Subscript (value := (Expr.Name x0 p40)) (slice := (Expr.Constant (Const.int 2) 0 p41)) (pos := p42))) (pos := p43))) (pos := p44))]) (keywords := []) (pos := p45))) (op := Operator.Mod) (right := (Expr.Constant (Const.int 2038074743) 0 p46)) (pos := p47))) (pos := p48)), (Stmt.Return (value := (some (Expr.BinOp (left := (Expr.Call (func := (Expr.Name "int" p49)) (args := [ (Expr.BinOp (left := (Expr.Subscript (value := (Expr.Name x0 p50)) (slice := (Expr.Constant (Const.int 1) 0 p51)) (pos := p52))) (op := Operator.FloorDiv) (right := (Expr.Constant (Const.int 23) 0 p53)) (pos := p54))]) (keywords := []) (pos := p55))) (op := Operator.Mod) (right := (Expr.Name x1 p56)) (pos := p57)))) (pos := p58))] t ∧ ∀ (D : Ends) (H : Hp) (a : Addr) (i j k top : Int), WOk i j → 1 ≤ top → top < 1152921504606846976 → H a = some (wLst i j k) →
      (∀ (m i' j' k' : Int) (H' : Hp), 0 ≤ m → m < top → WOk i' j' → H' a = some (wLst i' j' k') → (∀ b o, b ≠ a → H b = some o → H' b = some o) → D.rt (.int m) H') → t D [some (.ref a), some (.int top), none] H := by
  refine ⟨_, pss_cons (ps_if (pt_cmpR op_gt (pe_ix ix_list (pe_var e0 (.inl l0) d0 c0) pe_int (fun _ _ => rfl)) pe_int rfl) (pss_cons (ps_asg (pe_callB call_divmodW gd md (by decide +kernel) (pa_cons (pe_ix ix_list (pe_var e0 (.inl l0) d0 c0) pe_int (fun _ _ => rfl)) (pa_cons (pe_var e1 (.inl l1) d1 c1) pa_nil)))
      (pg_tup hc (pgs_cons (pg_sub (pe_var e0 (.inl l0) d0 c0) pe_int set_list) (pgs_cons (pg_name hN e2 (.inl l2) (.inr l2)) pgs_nil)))) (pss_one (ps_ret (pe_var e2 (.inl l2) d2 c2)))) pss_nil)
    (pss_cons (ps_asg (pe_op op_add (pe_ix ix_list (pe_var e0 (.inl l0) d0 c0) pe_int (fun _ _ => rfl)) pe_int) (pg_sub (pe_var e0 (.inl l0) d0 c0) pe_int set_list))
    (pss_cons (ps_asg (pe_op op_mod (pe_callTy call_int1 gi mi (by decide +kernel) (pa_cons (pe_op op_add (pe_op op_mul (pe_ix ix_list (pe_var e0 (.inl l0) d0 c0) pe_int (fun _ _ => rfl)) pe_int) (pe_op op_mul pe_int (pe_ix ix_list (pe_var e0 (.inl l0) d0 c0) pe_int (fun _ _ => rfl)))) pa_nil)) pe_int) (pg_sub (pe_var e0 (.inl l0) d0 c0) pe_int set_list))
    (pss_one (ps_ret (pe_op op_mod (pe_callTy call_int1 gi mi (by decide +kernel) (pa_cons (pe_op op_fdiv (pe_ix ix_list (pe_var e0 (.inl l0) d0 c0) pe_int (fun _ _ => rfl)) pe_int) pa_nil)) (pe_var e1 (.inl l1) d1 c1)))))), ?_⟩
  intro D H a i j k top ok t1 t2 ha q
  refine ⟨.ref a, rfl, a, _, 0, .int i, rfl, rfl, .inl (.of ha), rfl, i, 0, rfl, rfl, _, rfl, ?_⟩
  by_cases h : 0 < i
  · rw [decide_eq_true h]
    dsimp only
    rw [if_pos rfl]
    refine ⟨.ref a, rfl, a, _, 0, .int i, rfl, rfl, .inl (.of ha), rfl, .int top, rfl, i, top, rfl, divP t1 t2, fun p hp => ?_⟩
    have na : a ≠ p := ne_of_none ha hp
    refine ⟨p, _, rfl, .inl (.of upd_same), rfl, _, _, rfl, .ref a, rfl, a, [.int i, .int j, .int k], 0, 0, rfl, rfl, (upd_ne na).trans ha, rfl, _, _, rfl, ⟨rfl, .int (i % top), rfl, ?_⟩⟩
    refine q _ (i / top) j k _ (Int.emod_nonneg _ (by omega)) (Int.emod_lt_of_pos _ (by omega)) ⟨Int.ediv_nonneg ok.1 (by omega), ok.2⟩ upd_same fun b o n hb => ?_
    rw [upd_ne n, upd_ne (ne_of_none hb hp)]
    exact hb
  · rw [decide_eq_false h]
    dsimp only
    rw [if_neg Bool.false_ne_true]
    refine ⟨.ref a, rfl, a, _, 2, .int k, rfl, rfl, .inl (.of ha), rfl, k, 1, rfl, rfl, .ref a, rfl, a, _, 2, 2, rfl, rfl, ha, rfl, ?_⟩
    refine ⟨.ref a, rfl, a, _, 1, .int j, rfl, rfl, .inl (.of upd_same), rfl, j, 48271, rfl, rfl, .inr ⟨by decide, by decide⟩, .ref a, rfl, a, _, 2, .int (k + 1), rfl, rfl, .inl (.of upd_same), rfl, 1013, k + 1, rfl, rfl, .inl ⟨by decide, by decide⟩, _, _, rfl, rfl, .inl ⟨_, rfl, _, 2038074743, rfl, rfl, (show (0 : Int) < 2038074743 by decide), ?_⟩⟩
    refine ⟨.ref a, rfl, a, _, 1, 1, rfl, rfl, upd_same, rfl, ?_⟩
    refine ⟨.ref a, rfl, a, _, 1, _, rfl, rfl, .inl (.of upd_same), rfl, _, 23, rfl, rfl, ⟨by decide, by decide⟩, .inl ⟨_, rfl, .int top, rfl, _, top, rfl, rfl, by omega, ?_⟩⟩
    refine q _ i _ (k + 1) _ (Int.emod_nonneg _ (by omega)) (Int.emod_lt_of_pos _ (by omega)) ⟨ok.1, ?_⟩ upd_same fun b o n hb => ?_
    · have h1 := Int.emod_nonneg (j * 48271 + 1013 * (k + 1)) (b := 2038074743) (by decide)
      have h2 := Int.emod_lt_of_pos (j * 48271 + 1013 * (k + 1)) (b := 2038074743) (by decide)
      constructor <;> omega
    · rw [upd_ne n, upd_ne n]
      exact hb

theorem take_body {X : Cx} {x0 x1 x2 : Str} {p1 p2 p3 p4 p5 p6 p7 p8 p9 p10 p11 p12 p13 p14 p15 p16 p17 p18 p19 p20 p21 p22 p23 p24 p25 p26 p27 p28 p29 p30 p31 p32 p33 p34 p35 p36 p37 p38 p39 p40 p41 p42 p43 p44 p45 p46 p47 p48 p49 p50 p51 p52 p53 p54 p55 p56 p57 p58 p59 p60 p61 p62 p63 p64 p65 p66 : Pos} (hc : X.calm = true) (hN : X.N.Nodup) (e0 : X.N[0]? = some x0) (e1 : X.N[1]? = some x1) (e2 : X.N[2]? = some x2)
    (l0 : X.env.scope.names.lookup x0 = some .local) (l1 : X.env.scope.names.lookup x1 = some .local) (l2 : X.env.scope.names.lookup x2 = some .local)
    (d0 : (x0 == ("__debug__" : Str)) = false) (c0 : (x0 == ("__classdict__" : Str)) = false) (d1 : (x1 == ("__debug__" : Str)) = false) (c1 : (x1 == ("__classdict__" : Str)) = false) (d2 : (x2 == ("__debug__" : Str)) = false) (c2 : (x2 == ("__classdict__" : Str)) = false)
    (gd : Gl X "divmod") (gi : Gl X "int") (md : X.mg "divmod" = none) (mi : X.mg "int" = none) :
    ∃ t, PSs X [ (Stmt.If (test := (Expr.Compare (left := (Expr.Subscript (value := (Expr.Name x0 p1)) (slice := (Expr.Constant (Const.int 0) 0 p2)) (pos := p3))) (ops := [CmpOp.Gt]) (comparators := [(Expr.Constant (Const.int 0) 0 p4)]) (pos := p5))) (body := [ (Stmt.Assign (targets := [ (Expr.Tuple (elts := [ (Expr.Subscript (value := (Expr.Name x0 p6)) (slice := (Expr.Constant (Const.int 0) 0 p7)) (pos := p8)), (Expr.Name x2 p9)]) (k := 0) (pos := p10))]) (value := (Expr.Call (func := (Expr.Name "divmod" p11)) (args := [ (Expr.Subscript (value := (Expr.Name x0 p12)) (slice := (Expr.Constant (Const.int 0) 0 p13)) (pos := p14)), (Expr.Name x1 p15)]) (keywords := []) (pos := p16))) (pos := p17)), (Stmt.Return (some (Expr.Name x2 p18)) p19)]) (orelse := []) (pos := p20)), (Stmt.Assign (targets := [ (Expr.Subscript (value := (Expr.Name x0 p21)) (slice := (Expr.Constant (Const.int 2) 0 p22)) (pos := p23))]) (value := (Expr.BinOp (left := (Expr.Subscript (value := (Expr.Name x0 p24)) (slice := (Expr.Constant (Const.int 2) 0 p25)) (pos := p26))) (op := Operator.Add) (right := (Expr.Constant (Const.int 1) 0 p27)) (pos := p28))) (pos := p29)), (Stmt.Assign (targets := [ (Expr.Subscript (value := (Expr.Name x0 p30)) (slice := (Expr.Constant (Const.int 1) 0 p31)) (pos := p32))]) (value := (Expr.BinOp (left := (Expr.Call (func := (Expr.Name "int" p33)) (args := [ (Expr.BinOp (left := (Expr.BinOp (left := (Expr.BinOp (left := (Expr.Subscript (value := (Expr.Name x0 p34)) (slice := (Expr.Constant (Const.int 1) 0 p35)) (pos := p36))) (op := Operator.Mult) (right := (Expr.BinOp (left := (Expr.Constant (Const.int 16807) 0 p37)) (op := Operator.Add) (right := (Expr.BinOp (left := (Expr.Constant (Const.int 2) 0 p38)) (op := Operator.Mult) (right := (Expr.Subscript (value := (Expr.Name x0 p39)) (slice := (Expr.Constant (Const.int 2) 0 p40)) (pos := p41))) (pos := p42))) (pos := p43))) (pos := p44))) (op := Operator.Add) (right := (Expr.BinOp (left := (Expr.Constant (Const.int 7919) 0 p45)) (op := Operator.Mult) (right := (Expr.Subscript (value := (Expr.Name x0 p46)) (slice := (Expr.Constant (Const.int 2) 0 p47)) (pos := p48))) (pos := p49))) (pos := p50))) (op := Operator.Add) (right := (Expr.Constant (Const.int 3) 0 p51)) (pos := p52))]) (keywords := []) (pos := p53))) (op := Operator.Mod) (right := (Expr.Constant (Const.int 2147483629) 0 p54)) (pos := p55))) (pos := p56)), (Stmt.Return (value := (some (Expr.BinOp (left := (Expr.Call (func := (Expr.Name "int" p57)) (args := [ (Expr.BinOp (left := (Expr.Subscript (value := (Expr.Name x0 p58)) (slice := (Expr.Constant (Const.int 1) 0 p59)) (pos := p60))) (op := Operator.FloorDiv) (right := (Expr.Constant (Const.int 127) 0 p61)) (pos := p62))]) (keywords := []) (pos := p63))) (op := Operator.Mod) (right := (Expr.Name x1 p64)) (pos := p65)))) (pos := p66))] t ∧ ∀ (D : Ends) (H : Hp) (a : Addr) (i j k top : Int), WOk i j → 1 ≤ top → top < 1152921504606846976 → H a = some (wLst i j k) →
      (∀ (m i' j' k' : Int) (H' : Hp), 0 ≤ m → m < top → WOk i' j' → H' a = some (wLst i' j' k') → (∀ b o, b ≠ a → H b = some o → H' b = some o) → D.rt (.int m) H') → t D [some (.ref a), some (.int top), none] H := by
  refine ⟨_, pss_cons (ps_if (pt_cmpR op_gt (pe_ix ix_list (pe_var e0 (.inl l0) d0 c0) pe_int (fun _ _ => rfl)) pe_int rfl) (pss_cons (ps_asg (pe_callB call_divmodW gd md (by decide +kernel) (pa_cons (pe_ix ix_list (pe_var e0 (.inl l0) d0 c0) pe_int (fun _ _ => rfl)) (pa_cons (pe_var e1 (.inl l1) d1 c1) pa_nil)))
      (pg_tup hc (pgs_cons (pg_sub (pe_var e0 (.inl l0) d0 c0) pe_int set_list) (pgs_cons (pg_name hN e2 (.inl l2) (.inr l2)) pgs_nil)))) (pss_one (ps_ret (pe_var e2 (.inl l2) d2 c2)))) pss_nil)
    (pss_cons (ps_asg (pe_op op_add (pe_ix ix_list (pe_var e0 (.inl l0) d0 c0) pe_int (fun _ _ => rfl)) pe_int) (pg_sub (pe_var e0 (.inl l0) d0 c0) pe_int set_list))
    (pss_cons (ps_asg (pe_op op_mod (pe_callTy call_int1 gi mi (by decide +kernel) (pa_cons (pe_op op_add (pe_op op_add (pe_op op_mul (pe_ix ix_list (pe_var e0 (.inl l0) d0 c0) pe_int (fun _ _ => rfl)) (pe_op op_add pe_int (pe_op op_mul pe_int (pe_ix ix_list (pe_var e0 (.inl l0) d0 c0) pe_int (fun _ _ => rfl))))) (pe_op op_mul pe_int (pe_ix ix_list (pe_var e0 (.inl l0) d0 c0) pe_int (fun _ _ => rfl)))) pe_int) pa_nil)) pe_int) (pg_sub (pe_var e0 (.inl l0) d0 c0) pe_int set_list))
    (pss_one (ps_ret (pe_op op_mod (pe_callTy call_int1 gi mi (by decide +kernel) (pa_cons (pe_op op_fdiv (pe_ix ix_list (pe_var e0 (.inl l0) d0 c0) pe_int (fun _ _ => rfl)) pe_int) pa_nil)) (pe_var e1 (.inl l1) d1 c1)))))), ?_⟩
  intro D H a i j k top ok t1 t2 ha q
  refine ⟨.ref a, rfl, a, _, 0, .int i, rfl, rfl, .inl (.of ha), rfl, i, 0, rfl, rfl, _, rfl, ?_⟩
  by_cases h : 0 < i
  · rw [decide_eq_true h]
    dsimp only
    rw [if_pos rfl]
    refine ⟨.ref a, rfl, a, _, 0, .int i, rfl, rfl, .inl (.of ha), rfl, .int top, rfl, i, top, rfl, divP t1 t2, fun p hp => ?_⟩
    have na : a ≠ p := ne_of_none ha hp
    refine ⟨p, _, rfl, .inl (.of upd_same), rfl, _, _, rfl, .ref a, rfl, a, [.int i, .int j, .int k], 0, 0, rfl, rfl, (upd_ne na).trans ha, rfl, _, _, rfl, ⟨rfl, .int (i % top), rfl, ?_⟩⟩
    refine q _ (i / top) j k _ (Int.emod_nonneg _ (by omega)) (Int.emod_lt_of_pos _ (by omega)) ⟨Int.ediv_nonneg ok.1 (by omega), ok.2⟩ upd_same fun b o n hb => ?_
    rw [upd_ne n, upd_ne (ne_of_none hb hp)]
    exact hb
  · rw [decide_eq_false h]
    dsimp only
    rw [if_neg Bool.false_ne_true]
    refine ⟨.ref a, rfl, a, _, 2, .int k, rfl, rfl, .inl (.of ha), rfl, k, 1, rfl, rfl, .ref a, rfl, a, _, 2, 2, rfl, rfl, ha, rfl, ?_⟩
    refine ⟨.ref a, rfl, a, _, 1, .int j, rfl, rfl, .inl (.of upd_same), rfl, .ref a, rfl, a, _, 2, .int (k + 1), rfl, rfl, .inl (.of upd_same), rfl, 2, k + 1, rfl, rfl, .inl ⟨by decide, by decide⟩, 16807, _, rfl, rfl, j, _, rfl, rfl, .inl ⟨by have := ok.2.1; omega, by have := ok.2.2; omega⟩,
      .ref a, rfl, a, _, 2, .int (k + 1), rfl, rfl, .inl (.of upd_same), rfl, 7919, k + 1, rfl, rfl, .inl ⟨by decide, by decide⟩, _, _, rfl, rfl, _, 3, rfl, rfl, .inl ⟨_, rfl, _, 2147483629, rfl, rfl, (show (0 : Int) < 2147483629 by decide), ?_⟩⟩
    refine ⟨.ref a, rfl, a, _, 1, 1, rfl, rfl, upd_same, rfl, ?_⟩
    refine ⟨.ref a, rfl, a, _, 1, _, rfl, rfl, .inl (.of upd_same), rfl, _, 127, rfl, rfl, ⟨by decide, by decide⟩, .inl ⟨_, rfl, .int top, rfl, _, top, rfl, rfl, by omega, ?_⟩⟩
    refine q _ i _ (k + 1) _ (Int.emod_nonneg _ (by omega)) (Int.emod_lt_of_pos _ (by omega)) ⟨ok.1, ?_⟩ upd_same fun b o n hb => ?_
    · have h1 := Int.emod_nonneg (j * (16807 + 2 * (k + 1)) + 7919 * (k + 1) + 3) (b := 2147483629) (by decide)
      have h2 := Int.emod_lt_of_pos (j * (16807 + 2 * (k + 1)) + 7919 * (k + 1) + 3) (b := 2147483629) (by decide)
      constructor <;> omega
    · rw [upd_ne n, upd_ne n]
      exact hb

/-- a def whose body draws keeps the promise of a draw -/
theorem draw_ok {P : Program} {w : World} {K : PySem.W.Frag} {mg : Str → Option Value} {base : Heap} {k : Nat} {f : Addr} {fd : FuncData} {ct : ErT} {x qual x0 x1 x2 : Str} {params : Arguments} {body : List Stmt} {scope : Scope} {dvs : List V} {kws : List (Str × V)}
    (F : FunD K x qual params body scope dvs kws f fd) (S : FnScope [x0, x1, x2] [x0, x1] scope) (hb : ∀ X : Cx, X.calm = true → X.N = [x0, x1, x2] → X.env.scope = scope → X.mg = mg →
      ∃ t, PSs X body t ∧ ∀ (D : Ends) (H : Hp) (a : Addr) (i j k top : Int), WOk i j → 1 ≤ top → top < 1152921504606846976 → H a = some (wLst i j k) →
      (∀ (m i' j' k' : Int) (H' : Hp), 0 ≤ m → m < top → WOk i' j' → H' a = some (wLst i' j' k') → (∀ b o, b ≠ a → H b = some o → H' b = some o) → D.rt (.int m) H') → t D [some (.ref a), some (.int top), none] H) :
    FnG P w K mg base (k + 1) f fd [x0, x1] (spG K ct 2 pickFS) := by
  obtain ⟨oc, od, dV, kV, doc, pm, an, cdv, ct', osl, rfl, lk, hcd, _, _⟩ := F.ex
  refine fnG_of lk hcd S (fun vs H Q E h => h.1) fun A outer s H vs Q E hr hg ⟨hl, Hf, ds, kd, er, sub, dv, ⟨top, hds, ht, hm⟩, hk, he⟩ => ?_
  obtain ⟨t, h1, h2⟩ := hb (cxOf (L2.CX P w) P w K mg base [x0, x1, x2] qual scope f cdv A outer s H E) rfl rfl rfl rfl
  refine ⟨_, pss_open h1, ?_⟩
  subst hds
  cases dv with
  | cons v1 r => cases r with
    | cons v2 r =>
      cases r
      cases v2
      obtain ⟨a, rfl, ha⟩ := VS.opq_ sub (.f v1)
      have ha : H a = some (.ext (WellP a)) := ha
      refine ⟨a, ha, fun i j k ok => h2 _ _ a i j k top ok ht.1 ht.2 upd_same fun m i' j' k' H' m0 m1 ok' e' hx => ⟨i', j', k', ok', e', ?_⟩⟩
      exact hk _ (hm m m0 m1) _ Hf _ (ext_well sub ha fun b o n hb => hx b o n (by rw [upd_ne n]; exact hb)) (.int _)
end FR

/-! FrT: a def that looks whether a value is a pattern: text.replace('*', '-') wants a token out -/
namespace FR
open PySem L2 PyProof.Rows

def patText (x : Str) : Str := if 1 < x.length ∧ atI x.cps.toList (-1) = some 36 then cutS x none (some (-1)) else x
def somePat (pathB : Str → Bool) : D → Bool
  | .str x => decide (1 ≤ x.length ∧ x.length ≤ 12) && (pathB (Txt.replace (patText x) ⟨#[42]⟩ ⟨#[45]⟩) && decide (atI (patText x).cps.toList 0 = some 47))
  | _ => false
theorem somePat_str (pathB : Str → Bool) (x : Str) : somePat pathB (.str x) = (decide (1 ≤ x.length ∧ x.length ≤ 12) && (pathB (Txt.replace (patText x) ⟨#[42]⟩ ⟨#[45]⟩) && decide (atI (patText x).cps.toList 0 = some 47))) := rfl
def somePatFS (pathB : Str → Bool) : FS := fun ds kd _ => ∃ d, ds = [d] ∧ (∀ kvs, d ≠ .dict kvs) ∧ (∀ x, d = .str x → x.length ≤ sizeLine) ∧ kd (.bool (somePat pathB d))
abbrev cLen : CE := .blt .len (.cons (.var 0) .nil)
abbrev cTxt : CE := .ite (.and (.v (.cmp .gt cLen (.lit (.int 1)))) (.v (.cmp .eq (.idx (.var 0) (.neg (.lit (.int 1)))) (.lit (.str "$"))))) (.slc (.var 0) .no (.some (.neg (.lit (.int 1))))) (.var 0)
def patChB (C : Cc) (gm : Str) (e : Expr) : Bool := match e with
  | .Compare (.Constant (.int 1) _ _) [.LtE, .LtE] [eb, ec] _ => plainE eb && plainE ec && ckE cLen C eb && ckE (.glb gm) C ec
  | _ => false
def patRepB (C : Cc) (e : Expr) : Bool := match e with
  | .Call (.Attribute o nm ap) [.Constant (.str a) _ _, .Constant (.str b) _ _] [] cp => nm == ("replace" : Str) && a == (⟨#[42]⟩ : Str) && b == (⟨#[45]⟩ : Str) && ap.endLine == cp.line && noSup o && ckE (.var 1) C o
  | _ => false
def patB (C : Cc) (fp gm : Str) (body : List Stmt) : Bool := match body with
  | [.If (.BoolOp .Or [q1, .UnaryOp .Not ch _] _) [.Return (some r1) _] [] _, s2, .Return (some (.BoolOp .And [.Call (.Name f _) [rp] [] _, e2] _)) _] =>
    ckQ (.not (.v (.isi (.var 0) ["str"]))) C q1 && patChB C gm ch && ckE (.lit (.bl false)) C r1 && ckS (.asg 1 cTxt) C s2 && f == fp && glB C f && C.df.contains f && !(f == ("__debug__" : Str)) && patRepB C rp && plainE rp &&
      ckE (.cmp .eq (.idx (.var 1) (.lit (.int 0))) (.lit (.str "/"))) C e2
  | _ => false

section
variable {X : Cx} {G : Ctx} {ct : ErT} {W : WX} {C : Cc}
/-- 1 <= len(value) <= MOST: behind it a token is out -/
theorem ptg_chain {ch : Expr} {gm : Str} {x : Str} {pins : List (Addr × Obj)} {s : Shared} {σ : L2.St} {Rf RH Hf H : Hp} {δ : List Sl} {whole : Sem Value} (c : CcOk X G ct W C) (h : patChB C gm ch = true) (hgm : G.gl gm = some (.int 12)) (I : L2.Inv X pins σ H s) (S : SD X.K Rf RH Hf H σ δ)
    (hx : δ[0]? = some (.d (.str x))) (hl : x.length ≤ sizeLine) :
    wpAny (model X.prog X.w) X.A (isTrue ch X.env whole) (fun b s' => 1 ≤ s'.toks ∧ b = decide (1 ≤ x.length ∧ x.length ≤ 12) ∧ ∃ Gf H', L2.Inv X pins σ H' s' ∧ Ext Hf H Gf H') X.xe s := by
  unfold patChB at h
  split at h
  · rename_i j p1 eb ec p2
    simp only [Bool.and_eq_true] at h
    obtain ⟨⟨⟨h1, h2⟩, h3⟩, h4⟩ := h
    have hm : lastMarks [.LtE, .LtE] [eb, ec] = false := plain_beh h2 _
    refine isTrue_chain (wpAny_Constant_int ?_) hm
    have I0 : L2.Inv X pins σ H { s with toks := s.toks + 1 } := I.tok _
    refine wpAny_mono (wpAny_toks_of (n := 1) (Q := fun b s' => b = decide (1 ≤ x.length ∧ x.length ≤ 12) ∧ ∃ Gf H', L2.Inv X pins σ H' s' ∧ Ext Hf H Gf H') (E := X.xe) (by show 1 ≤ s.toks + 1; omega) ?_) (fun b s' q => q) fun _ _ z => z.2
    have hb : LE X.K ct W true (fun er => rd G true er cLen) σ H (fun v H1 => v = .int x.length ∧ ∃ Gf, Ext Hf H Gf H1) := by
      refine ⟨Rf, RH, Hf, δ, fun d => d = .int x.length, er0, S, EC.none, ?_, fun d hd v Gf J e hv => ?_⟩
      · dsimp only
        unfold rd rl rd rl
        rw [if_pos rfl, hx]
        exact ⟨hl, rfl⟩
      · subst hd; exact ⟨hv.int_, Gf, e⟩
    refine test_link (thn ((okE (G := G) (ct := ct) cLen c h3 true).run pins _ σ H _ I0 hb) fun u s2 ⟨y, H2, I2, r2, hy, Gf, e2⟩ => ?_)
    subst hy
    refine thn (op_le (X := X) pins s2 σ H2 (.int 1) (.int x.length) _ u (fun v H' => v = .bl (decide ((1 : Int) ≤ x.length)) ∧ H' = H2) I2 ⟨_, rfl⟩ r2 ⟨_, _, rfl, rfl, rfl, rfl⟩) fun d s3 ⟨z, H3, I3, r3, ez, eH⟩ => ?_
    subst ez
    cases r3
    have I3 : L2.Inv X pins σ H2 s3 := eH ▸ I3
    refine wpAny_truthy_bool ?_
    by_cases h5 : 1 ≤ x.length
    · have e5 : decide ((1 : Int) ≤ x.length) = true := decide_eq_true (by omega)
      rw [e5, if_pos rfl]
      have hc : LE X.K ct W false (fun er => rd G false er (.glb gm)) σ H2 (fun v H1 => v = .int 12 ∧ ∃ Gf, Ext Hf H Gf H1) := by
        refine ⟨Rf, RH, Gf, δ, fun d => d = .int 12, er0, S.mono e2, EC.none, ?_, fun d hd v Jf J e hv => ?_⟩
        · dsimp only
          unfold rd
          exact ⟨_, hgm, rfl⟩
        · subst hd; exact ⟨(VB.s hv).int_, Jf, e2.trans e⟩
      refine test_last (thn ((okE (G := G) (ct := ct) (.glb gm) c h4 false).run pins s3 σ H2 _ I3 hc) fun w' s4 ⟨y2, H4, I4, r4, hy2, Gf4, e4⟩ => ?_)
      subst hy2
      refine thn (op_le (X := X) pins s4 σ H4 (.int x.length) (.int 12) u w' (fun v H' => v = .bl (decide ((x.length : Int) ≤ 12)) ∧ H' = H4) I4 r2 r4 ⟨_, _, rfl, rfl, rfl, rfl⟩) fun d s5 ⟨z2, H5, I5, r5, ez2, eH2⟩ => ?_
      subst ez2
      cases r5
      have I5 : L2.Inv X pins σ H4 s5 := eH2 ▸ I5
      refine wpAny_truthy_bool ⟨?_, Gf4, H4, I5, e4⟩
      by_cases h6 : x.length ≤ 12
      · rw [decide_eq_true (show (x.length : Int) ≤ 12 by omega), decide_eq_true ⟨h5, h6⟩]
      · rw [decide_eq_false (show ¬ (x.length : Int) ≤ 12 by omega), decide_eq_false fun z => h6 z.2]
    · have e5 : decide ((1 : Int) ≤ x.length) = false := decide_eq_false (by omega)
      rw [e5, if_neg Bool.false_ne_true]
      exact ⟨(decide_eq_false fun z => h5 z.1).symm, Gf, H2, I3, e2⟩
  · cases h
/-- text.replace('*', '-'), a token out -/
theorem pat_rep {e : Expr} {t : Str} {pins : List (Addr × Obj)} {s : Shared} {σ : L2.St} {Rf RH Hf H : Hp} {δ : List Sl} (c : CcOk X G ct W C) (h : patRepB C e = true) (h0 : 1 ≤ s.toks) (I : L2.Inv X pins σ H s) (S : SD X.K Rf RH Hf H σ δ)
    (hx : δ[1]? = some (.d (.str t))) (hl : t.length ≤ 1000) :
    wpAny (model X.prog X.w) X.A (eval e X.env) (EP X pins σ fun v H' => v = .str (Txt.replace t ⟨#[42]⟩ ⟨#[45]⟩) ∧ ∃ Gf, Ext Hf H Gf H') X.xe s := by
  unfold patRepB at h
  split at h
  · rename_i o nm ap a j0 p0 b j1 p1 cp
    simp only [Bool.and_eq_true] at h
    obtain ⟨⟨⟨⟨⟨h1, h2⟩, h3⟩, h4⟩, h5⟩, h6⟩ := h
    have := eq_of_beq h1
    subst this
    have := eq_of_beq h2
    subst this
    have := eq_of_beq h3
    subst this
    refine CwR.pet_replC (okE (G := G) (ct := ct) (.var 1) c h6 false) (by decide) rfl (noSup_base h5 _ _) h4 pins s σ H _ h0 I ?_
    refine ⟨Rf, RH, Hf, δ, fun d => d = .str t, er0, S, EC.none, ?_, fun d hd v Gf J e hv => ?_⟩
    · dsimp only
      unfold rd
      rw [if_neg Bool.false_ne_true, hx]
      exact rfl
    · subst hd
      exact ⟨t, (VB.s hv).str_, by show t.length + (t.length + 1) * 1 ≤ _; omega, rfl, Gf, e⟩
  · cases h
theorem patText_len (x : Str) : (patText x).length ≤ x.length := by
  unfold patText
  split
  · exact cutS_length _ _ _
  · exact Nat.le_refl _
def isStrD : FR.D → Bool
  | .str _ => true
  | _ => false
/-- what is asked of the state ahead of the body -/
def tPat (K : PySem.W.Frag) (pathB : Str → Bool) : TS := fun D σ H => ∃ (Hf : Hp) (d : FR.D), SD K Hf H Hf H σ [.d d, .no] ∧ (∀ kvs, d ≠ .dict kvs) ∧ (∀ x, d = .str x → x.length ≤ sizeLine) ∧ ∀ Gf J, Ext Hf H Gf J → D.rt (.bl (somePat pathB d)) J
theorem atI_neg1 {α : Type} {xs : List α} (h : 0 < xs.length) : atI xs (-1) = xs[xs.length - 1]? := by
  unfold atI ixN
  rw [if_neg (by omega), if_pos (by omega)]
  show xs[((-1 : Int) + (xs.length : Int)).toNat]? = _
  congr 1
  omega
theorem atI_zero {α : Type} {xs : List α} : atI xs 0 = xs[0]? := by
  unfold atI ixN
  rw [if_pos (by omega)]
  by_cases h : 0 < xs.length
  · rw [if_pos (by omega)]; rfl
  · rw [if_neg (by omega), List.getElem?_eq_none (by omega)]; rfl
theorem str_list_len (x : Str) : x.cps.toList.length = x.length := by simp [Str.length]
theorem str1_eq (c d : Nat) : PyData.eqv (.str ⟨#[c]⟩) (.str ⟨#[d]⟩) = decide (c = d) := by
  show ((⟨#[c]⟩ : Str) == ⟨#[d]⟩) = decide (c = d)
  by_cases h : c = d
  · subst h; simp
  · rw [decide_eq_false h]
    exact beq_eq_false_iff_ne.mpr fun z => h (by injection z with z; injection z with z; injection z)
theorem rd_txt {x : Str} {k : KD} (hl : x.length ≤ 1000) (h : k (.str (patText x))) (er : Er) : rd G false er cTxt [.d (.str x), .no] k := by
  have hz : x.length ≤ sizeLine := by rw [sizeLine_eq]; omega
  unfold patText at h
  simp only [rd, rq, rl, rp, slS, slD, List.getElem?_cons_zero, if_true, bltC, lenC, cmpC, gtC, eqC, idxC, slcC, truD, Lit.d, Bool.false_eq_true, if_false]
  refine ⟨hz, _, rfl, ?_⟩
  by_cases h1 : 1 < x.length
  · have e1 : ((1 : Int) < x.length) := by omega
    simp only [e1, decide_true, if_true]
    refine ⟨1, rfl, hz, ?_⟩
    have hlen : 0 < x.cps.toList.length := by rw [str_list_len]; omega
    have hc : atI x.cps.toList (-1) = some (x.cps.toList[x.cps.toList.length - 1]'(by omega)) := by rw [atI_neg1 hlen, List.getElem?_eq_getElem]
    refine ⟨_, hc, .inr (.inl ⟨_, _, rfl, rfl⟩), _, rfl, ?_⟩
    rw [hc] at h
    have e2 : PyData.eqv (.str ⟨#[x.cps.toList[x.cps.toList.length - 1]'(by omega)]⟩) (.str "$") = decide (x.cps.toList[x.cps.toList.length - 1]'(by omega) = 36) := str1_eq _ 36
    rw [e2]
    by_cases h2 : x.cps.toList[x.cps.toList.length - 1]'(by omega) = 36
    · rw [if_pos ⟨h1, by rw [h2]⟩] at h
      simp only [h2, decide_true, if_true]
      exact ⟨1, rfl, _, rfl, hz, h⟩
    · rw [if_neg (fun z => h2 (Option.some.inj z.2))] at h
      simp only [h2, decide_false, if_false, Bool.false_eq_true]
      exact h
  · have e1 : ¬ ((1 : Int) < x.length) := by omega
    simp only [e1, decide_false, if_false, Bool.false_eq_true]
    rw [if_neg fun z => h1 z.1] at h
    exact h
theorem patText_pos {x : Str} (h : 1 ≤ x.length) : 1 ≤ (patText x).length := by
  unfold patText
  split
  · rename_i z
    have e1 : (cutS x none (some (-1))).length = (x.length - 1) := by
      unfold cutS
      show (((x.cps.toList.drop 0).take (((-1 : Int) + (x.length : Int)).toNat - 0)).toArray).size = _
      rw [List.drop_zero]
      simp only [List.size_toArray, List.length_take, str_list_len]
      omega
    rw [e1]
    have := z.1
    omega
  · exact h
/-- the last expression's reading -/
def tPatE (K : PySem.W.Frag) (pathB : Str → Bool) : TE := fun σ H Q => ∃ (Rf RH Hf : Hp) (x t : Str), SD K Rf RH Hf H σ [.d (.str x), .d (.str t)] ∧ 1 ≤ t.length ∧ t.length ≤ 1000 ∧
  ∀ Gf J, Ext Hf H Gf J → Q (.bl (pathB (Txt.replace t ⟨#[42]⟩ ⟨#[45]⟩) && decide (atI t.cps.toList 0 = some 47))) J
theorem rep_len (t : Str) : (Txt.replace t ⟨#[42]⟩ ⟨#[45]⟩).length ≤ t.length + (t.length + 1) := by
  have := TK.replace_len t ⟨#[42]⟩ ⟨#[45]⟩
  have e : (⟨#[45]⟩ : Str).length = 1 := rfl
  rw [e] at this
  omega
theorem pat_last {pathB : Str → Bool} {fs : FS} {f : Str} {pf pc pb : Pos} {rp e2 : Expr} (c : StOk X G ct W C) (h6 : glB C f = true) (h7 : C.df.contains f = true) (h8 : (f == ("__debug__" : Str)) = false) (h9 : patRepB C rp = true) (h10 : plainE rp = true)
    (h11 : ckE (.cmp .eq (.idx (.var 1) (.lit (.int 0))) (.lit (.str "/"))) C e2 = true) (hfs : G.fn f = some fs) (hsh : shapeOf G f 1 [] = some [.p 0]) (hP : ∀ (y : Str) (kd : KD), y.length ≤ 4000 → kd (.bool (pathB y)) → fs [.str y] kd er0) :
    PET X (.BoolOp .And [.Call (.Name f pf) [rp] [] pc, e2] pb) (tPatE X.K pathB) := by
  intro pins s σ H Q h0 I ⟨Rf, RH, Hf, x, t, S, hl0, hl, hq⟩
  obtain ⟨fs', fa, fd, ps, kk, gf, hm, hkp, F, hr, hg⟩ := (c.c.df _ h7).ex
  rw [hfs] at gf
  cases gf
  obtain ⟨l1, du, hdu, hb⟩ := hg _ _ _ hsh
  have hlen := rep_len t
  refine BoolOp_and (wpAny_Call_Name_kw (ld_glob I (glB_ok c.c h6) hm ?_ h8))
  refine PySem.W.callWith_K (h₀ := X.base) I.ok.mod.kin hkp ?_ (star1 h10 [] _) rfl
  rw [star1 h10 [] X.env]
  refine Calls.spliced_cons (thn (pat_rep (G := G) (ct := ct) (W := W) c.c h9 h0 I S rfl hl) fun u s1 ⟨v, H1, I1, r1, ev, Gf, e1⟩ => Calls.spliced_nil ⟨I1.kIn, ?_⟩)
  subst ev
  refine thn (run_fnG (Q := fun v H' => v = .bl (pathB (Txt.replace t ⟨#[42]⟩ ⟨#[45]⟩)) ∧ ∃ Gf, Ext Hf H Gf H') (E := fun _ _ _ => False) (us := [u]) (kws := []) (vs := [.str (Txt.replace t ⟨#[42]⟩ ⟨#[45]⟩)]) F hr c.c.gd c.c.tk I1 (hb s1 [u] [] I1.kIn rfl rfl)
    (src_vals (vs := [.str _]) (us := [u]) (.cons r1 .nil) .nil [.p 0] hdu) ?_ fun _ _ _ h => h.elim) fun w s2 ⟨v2, H2, I2, r2, ev2, Gf2, e2'⟩ => ?_
  · refine ⟨by rw [← l1]; rfl, Gf, [.str (Txt.replace t ⟨#[42]⟩ ⟨#[45]⟩)], fun d => d = .bool (pathB (Txt.replace t ⟨#[42]⟩ ⟨#[45]⟩)), er0, e1.sub, .cons (.str _) .nil, hP _ _ (by omega) rfl, fun d hd v Jf J e hv => ?_, EC.none⟩
    subst hd
    cases hv
    exact ⟨rfl, Jf, e1.trans e⟩
  · subst ev2
    cases r2
    refine wpAny_truthy_bool ?_
    have S2 := S.mono e2'
    cases hb : pathB (Txt.replace t ⟨#[42]⟩ ⟨#[45]⟩) with
    | false =>
      rw [if_neg Bool.false_ne_true]
      refine ⟨.bl false, H2, I2, rfl, ?_⟩
      have := hq Gf2 H2 e2'
      rw [hb, Bool.false_and] at this
      exact this
    | true =>
      rw [if_pos rfl]
      refine BoolOp_one ((okE (G := G) (ct := ct) _ c.c h11 false).run pins s2 σ H2 _ I2 ?_)
      refine ⟨Rf, RH, Gf2, _, fun d => d = .bool (decide (atI t.cps.toList 0 = some 47)), er0, S2, EC.none, ?_, fun d hd v Jf J e hv => ?_⟩
      · dsimp only
        simp only [rd, slS, List.getElem?_cons_succ, List.getElem?_cons_zero, if_true, Lit.d, idxC, cmpC, eqC]
        have hpos : 0 < t.cps.toList.length := by rw [str_list_len]; omega
        have hc : atI t.cps.toList 0 = some (t.cps.toList[0]'hpos) := by rw [atI_zero, List.getElem?_eq_getElem hpos]
        refine ⟨by rw [sizeLine_eq]; omega, _, hc, .inr (.inl ⟨_, _, rfl, rfl⟩), ?_⟩
        have e2 : PyData.eqv (.str ⟨#[t.cps.toList[0]'hpos]⟩) (.str "/") = decide (t.cps.toList[0]'hpos = 47) := str1_eq _ 47
        rw [e2, hc]
        congr 1
        by_cases h47 : t.cps.toList[0]'hpos = 47
        · rw [decide_eq_true h47, decide_eq_true (by rw [h47])]
        · rw [decide_eq_false h47, decide_eq_false fun z => h47 (Option.some.inj z)]
      · subst hd
        cases hv
        have := hq Jf J (e2'.trans e)
        rw [hb, Bool.true_and] at this
        exact this
/-- the whole body -/
theorem pat_body {fp gm : Str} {body : List Stmt} {pathB : Str → Bool} {fs : FS} (c : StOk X G ct W C) (h : patB C fp gm body = true) (hgm : G.gl gm = some (.int 12)) (hfs : G.fn fp = some fs) (hsh : shapeOf G fp 1 [] = some [.p 0])
    (hP : ∀ (y : Str) (kd : KD), y.length ≤ 4000 → kd (.bool (pathB y)) → fs [.str y] kd er0) : PSs X body (tPat X.K pathB) := by
  unfold patB at h
  split at h
  · rename_i q1 ch pu po r1 pr pi s2' f pf rp pc e2' pb pq
    simp only [Bool.and_eq_true, Bool.not_eq_true'] at h
    obtain ⟨⟨⟨⟨⟨⟨⟨⟨⟨⟨h1, h2⟩, h3⟩, h4⟩, h5⟩, h6⟩, h7⟩, h8⟩, h9⟩, h10⟩, h11⟩ := h
    have := eq_of_beq h5
    subst this
    refine ⟨fun pins s σ H D I ⟨Hf, d, S, hd, hx, hq⟩ => ?_⟩
    have hr1 := ds_ret (G := G) (W := W) (pos := pr) (okE (G := G) (ct := ct) _ c.c h3 false)
    -- return False
    have no : ∀ (s1 : Shared) (H1 Gf : Hp), L2.Inv X pins σ H1 s1 → Ext Hf H Gf H1 → somePat pathB d = false → wpAny (model X.prog X.w) X.A (execs [.Return (some r1) pr] X.env) (fun f s' => ∃ v, f = .ret v ∧ SP X pins D (.ret v) s') X.xe s1 := by
      intro s1 H1 Gf I1 e1 hs
      refine thn ((pss_one hr1).run pins s1 σ H1 { nx := fun _ _ => False, rt := D.rt } I1 ?_) fun f s' z => ?_
      · refine ⟨Hf, H, Gf, [.d d, .no], er0, { nx := fun _ => False, rt := fun z => z = .bool false, rf := fun _ => False }, S.mono e1, fun σ => EC.none, ?_, ⟨fun _ _ _ _ h _ => h.elim, fun z v Jf J h e hv => ?_, fun _ _ _ _ h _ => h.elim, fun _ _ _ _ h _ => h.elim, fun _ _ _ _ _ h => h.elim⟩⟩
        · dsimp only
          unfold ws rd
          exact rfl
        · subst h
          cases hv
          show D.rt _ _
          rw [← hs]
          exact hq Jf J e
      · cases f with
        | next => obtain ⟨_, _, _, z⟩ := z; exact z.elim
        | brk => obtain ⟨_, _, _, z⟩ := z; exact z.elim
        | cont => obtain ⟨_, _, _, z⟩ := z; exact z.elim
        | ret v => exact ⟨v, rfl, z⟩
    have t1 : LT X.K ct W (fun er => rq G er (.not (.v (.isi (.var 0) ["str"])))) σ H (fun b H1 => (∃ Gf, Ext Hf H Gf H1) ∧ b = !isStrD d) := by
      refine ⟨Hf, H, Hf, _, fun b => b = !isStrD d, er0, S, EC.none, ?_, fun t ht Gf J e => ⟨⟨Gf, e⟩, ht⟩⟩
      dsimp only
      simp only [rq, rd, slS, List.getElem?_cons_zero, if_true]
      cases d with
      | dict kvs => exact absurd rfl (hd kvs)
      | _ => exact ⟨_, rfl, _, rfl, rfl⟩
    refine wpAny_execs_cons (wpAny_If (isTrue_or (thn ((okQ (G := G) (ct := ct) _ c.c h1).run pins s σ H _ I t1) fun b1 s1 ⟨H1, I1, ⟨Gf1, e1⟩, hb1⟩ => ?_)))
    cases d with
    | str x =>
      have hb1 : b1 = false := hb1
      subst hb1
      rw [if_neg Bool.false_ne_true]
      refine isTrue_or (isTrue_not (wpAny_mono (ptg_chain (G := G) (ct := ct) c.c h2 hgm I1 (S.mono e1) rfl (hx x rfl)) (fun b2 s2 ⟨k2, hb2, Gf2, H2, I2, e2⟩ => ?_) fun _ _ z => z))
      subst hb2
      by_cases hl : 1 ≤ x.length ∧ x.length ≤ 12
      · rw [decide_eq_true hl]
        rw [Bool.not_true, if_neg Bool.false_ne_true]
        refine isTrue_or_nil ?_
        rw [if_neg Bool.false_ne_true]
        refine wpAny_execs_nil ?_
        -- text = ..
        have e12 := e1.trans e2
        have S2 := S.mono e12
        have hs2 := okS (G := G) (ct := ct) (.asg 1 cTxt) c h4
        have hpt := patText_len x
        have ht : PSsT X [s2', .Return (some (.BoolOp .And [.Call (.Name f pf) [rp] [] pc, e2'] pb)) pq] _ := psst_cons (PST.of hs2) (CwR.psst_one (CwR.pst_ret (pat_last c h6 h7 h8 h9 h10 h11 hfs hsh hP)))
        refine ht pins s2 σ H2 D k2 I2 ?_
        refine ⟨Hf, H, Gf2, _, er0, { nx := fun δ => δ = [.d (.str x), .d (.str (patText x))], rt := fun _ => False }, S2, fun σ => EC.none, ?_, ⟨fun δ' σ' Jf J hδ S3 => ?_, fun _ _ _ _ h => h.elim, fun _ _ _ _ h => h.elim, fun _ _ _ _ h => h.elim, fun _ _ _ _ _ h => h.elim⟩⟩
        · dsimp only
          unfold ws
          refine rd_txt (x := x) (by omega) ?_ er0
          exact rfl
        · subst hδ
          refine ⟨Hf, H, Jf, x, patText x, S3, patText_pos hl.1, by omega, fun Kf K e => ?_⟩
          have := hq Kf K (S3.ext.trans e)
          rw [somePat_str, decide_eq_true hl, Bool.true_and] at this
          exact this
      · rw [decide_eq_false hl]
        rw [Bool.not_false, if_pos rfl, if_pos rfl]
        refine thn (no s2 H2 Gf2 I2 (e1.trans e2) ?_) fun f s' ⟨v, ef, q⟩ => by subst ef; exact q
        rw [somePat_str, decide_eq_false hl, Bool.false_and]
    | dict kvs => exact absurd rfl (hd kvs)
    | _ =>
      have hb1 : b1 = true := hb1
      subst hb1
      rw [if_pos rfl, if_pos rfl]
      exact thn (no s1 H1 Gf1 I1 e1 rfl) fun f s' ⟨v, ef, q⟩ => by subst ef; exact q
  · cases h
end
/-- the def keeps its promise -/
theorem somePat_ok {P : Program} {w : World} {K : PySem.W.Frag} {mg : Str → Option Value} {base : Heap} {k : Nat} {f : Addr} {fd : FuncData} {ct : ErT} {G : Ctx} {x qual x0 : Str} {params : Arguments} {body : List Stmt} {scope : Scope} {dvs : List V} {kws : List (Str × V)} {C : Cc} {fp gm : Str} {pathB : Str → Bool} {fs : FS}
    (F : FunD K x qual params body scope dvs kws f fd) (E1 : Env1 P w K mg base G ct k C) (S : FnScope C.N [x0] scope) (hsc : C.sc = scope) (hcel : C.cel = C.N) (hN : C.N.length = 2) (hck : patB C fp gm body = true) (hgm : G.gl gm = some (.int 12)) (hfs : G.fn fp = some fs) (hsh : shapeOf G fp 1 [] = some [.p 0])
    (hP : ∀ (y : Str) (kd : KD), y.length ≤ 4000 → kd (.bool (pathB y)) → fs [.str y] kd er0) : FnG P w K mg base (k + 1) f fd [x0] (spG K ct 1 (somePatFS pathB)) := by
  obtain ⟨oc, od, dV, kV, doc, pm, an, cdv, ct', osl, rfl, lk, hcd, _, _⟩ := F.ex
  refine fnG_of lk hcd S (fun vs H Q E h => h.1) fun A outer s H vs Q E hr hg ⟨hl, Hf, ds, kd, er, sub, dv, ⟨d, hds, h1, h2, h3⟩, hk, he⟩ => ?_
  subst hds
  have un := hr.un
  refine ⟨_, pat_body (G := G) (ct := ct) (W := fun c d _ G => E c d G) (C := C) (X := cxOf (L2.CX P w) P w K mg base C.N qual scope f cdv A outer s H E) ⟨⟨rfl, S.nd, hsc.symm, rfl, hg, ?_, ?_, E1.bl, fun x h => ?_, E1.gls, fun _ _ => rfl⟩, passes_of rfl, S.kind⟩ hck hgm hfs hsh hP, Hf, d, ?_, h1, h2, fun Gf J e => hk _ h3 _ Gf J e (.bl _)⟩
  · show (A.deeper _).units + 66 < cLine
    omega
  · exact takes_of rfl rfl rfl rfl
  · obtain ⟨fs, f, fd, ps, a, b, c, F, d⟩ := E1.df x h
    exact ⟨⟨fs, f, fd, ps, k, a, b, c, F, hr, d⟩⟩
  · have q := start_sd (N := C.N) sub dv
    unfold startD at q
    rw [hN] at q
    exact q
end FR

/-! FrU: the source of draws is made -/
namespace FR
open PySem L2 PyProof.Rows

def wellFS : FS := fun ds kd _ => ∃ (ns : List Int) (t : Int), ds = [scrD ns, .int t] ∧ (0 ≤ t ∧ t < 1000) ∧ kd wellD
/-- a def that returns a list of three ints, sealed -/
theorem well_def {P : Program} {w : World} {K : PySem.W.Frag} {mg : Str → Option Value} {base : Heap} {k : Nat} {f : Addr} {fd : FuncData} {ct : ErT} {G : Ctx} {x qual x0 x1 : Str} {params : Arguments} {body : List Stmt} {scope : Scope} {dvs : List V} {kws : List (Str × V)} {C : Cc} {cb : CB}
    (F : FunD K x qual params body scope dvs kws f fd) (E1 : Env1 P w K mg base G ct k C) (S : FnScope C.N [x0, x1] scope) (hsc : C.sc = scope) (hcel : C.cel = C.N) (hck : ckB cb C body = true)
    (hlaw : ∀ (ns : List Int) (t : Int) (rf : List D → Prop), 0 ≤ t → t < 1000 → (∀ i j, WOk i j → rf [.int i, .int j, .int 0]) → wb G er0 cb { nx := fun _ => False, rt := fun _ => False, rf := rf } (startD C.N [scrD ns, .int t])) : FnG P w K mg base (k + 1) f fd [x0, x1] (spG K ct 2 wellFS) := by
  obtain ⟨oc, od, dV, kV, doc, pm, an, cdv, ct', osl, rfl, lk, hcd, _, _⟩ := F.ex
  refine fnG_of lk hcd S (fun vs H Q E h => h.1) fun A outer s H vs Q E hr hg ⟨hl, Hf, ds, kd, er, sub, dv, ⟨ns, t, hds, ht, h3⟩, hk, he⟩ => ?_
  subst hds
  have un := hr.un
  refine ⟨_, pss_close (okB (G := G) (ct := ct) cb (W := fun c d _ G => E c d G) (C := C) (X := cxOf (L2.CX P w) P w K mg base C.N qual scope f cdv A outer s H E) ⟨⟨rfl, S.nd, hsc.symm, rfl, hg, ?_, ?_, E1.bl, fun x h => ?_, E1.gls, fun _ _ => rfl⟩, passes_of rfl, S.kind⟩ hck), ?_⟩
  · show (A.deeper _).units + 66 < cLine
    omega
  · exact takes_of rfl rfl rfl rfl
  · obtain ⟨fs, f, fd, ps, a, b, c, F, d⟩ := E1.df x h
    exact ⟨⟨fs, f, fd, ps, k, a, b, c, F, hr, d⟩⟩
  · refine ⟨Hf, H, Hf, _, er0, { nx := fun _ => False, rt := fun _ => False, rf := fun xs => ∃ i j, WOk i j ∧ xs = [.int i, .int j, .int 0] }, start_sd sub dv, fun σ => EC.none, hlaw ns t _ ht.1 ht.2 (fun i j ok => ⟨i, j, ok, rfl⟩), ?_⟩
    refine ⟨fun _ _ _ _ h => h.elim, fun _ _ _ _ h => h.elim, fun _ _ _ _ h => h.elim, fun _ _ _ _ h => h.elim, fun xs l vs Gf J ⟨i, j, ok, hxs⟩ e h1 h2 hR t => ?_⟩
    subst hxs
    cases t with
    | cons a1 t => cases t with
      | cons a2 t => cases t with
        | cons a3 t =>
          cases t; cases a1; cases a2; cases a3
          refine ⟨l, i, j, 0, rfl, ok, h1, ?_⟩
          have e2 : Ext Hf H (upd Gf l (.ext (WellP l))) (upd J l (.ext (WellP l))) := by
            refine ⟨fun a u q => ?_, e.fz.trans (.new h2), fun a u q => ?_, fun a n => ?_⟩
            · rw [upd_ne (ne_of_none q hR)]; exact e.ex a u q
            · by_cases z : a = l
              · subst z; rw [upd_same] at q ⊢; exact q
              · rw [upd_ne z] at q ⊢; exact e.sub a u q
            · rw [upd_ne fun z => n (by rw [z]; exact hR)]; exact e.old a n
          exact hk _ h3 (.ref l) _ _ e2 (Dv.opq (n := 0) upd_same)
end FR

/-! FrV: the readings by equations (for simp) -/
namespace FR
open PySem L2 PyProof.Rows

section
variable {i j : Int} {x y : Str} {xs ys ds : List D} {d e : D} {k : KD} {b c : Bool} {ns : List Int}
theorem r_sS : slS (some (.d d)) k = k d := rfl
theorem r_sl : slS (some (.l xs)) k = k (.list xs) := rfl
theorem r_sD : slD (some (.d d)) k = k d := rfl
theorem r_add : binC .add (.int i) (.int j) k = k (.int (i + j)) := rfl
theorem r_adds : binC .add (.str x) (.str y) k = (x.length + y.length ≤ sizeLine ∧ k (.str (x ++ y))) := rfl
theorem r_addl : binC .add (.list xs) (.list ys) k = (xs.length + ys.length ≤ sizeLine ∧ k (.list (xs ++ ys))) := rfl
theorem r_addt : binC .add (.tuple xs) (.tuple ys) k = (xs.length + ys.length ≤ sizeLine ∧ k (.tuple (xs ++ ys))) := rfl
theorem r_sub : binC .sub (.int i) (.int j) k = k (.int (i - j)) := rfl
theorem r_mul : binC .mul (.int i) (.int j) k = ((CMul i j ∨ CMulW i j) ∧ k (.int (i * j))) := rfl
theorem r_mull : binC .mul (.list xs) (.int j) k = (-(2 ^ 63) ≤ j ∧ j < 2 ^ 63 ∧ xs.length * j.toNat ≤ sizeLine ∧ k (.list (List.replicate j.toNat xs).flatten)) := rfl
theorem r_mod : binC .mod (.int i) (.int j) k = (0 < j ∧ k (.int (i % j))) := rfl
theorem r_fdiv : binC .fdiv (.int i) (.int j) k = ((CDiv i j ∨ CDivW i j) ∧ k (.int (i / j))) := rfl
theorem r_pow : binC .pow (.int i) (.int j) k = (CPow i j ∧ k (.int (i ^ j.toNat))) := rfl
theorem r_lt : cmpC .lt (.int i) (.int j) k = k (.bool (decide (i < j))) := rfl
theorem r_le : cmpC .le (.int i) (.int j) k = k (.bool (decide (i ≤ j))) := rfl
theorem r_gt : cmpC .gt (.int i) (.int j) k = k (.bool (decide (j < i))) := rfl
theorem r_ge : cmpC .ge (.int i) (.int j) k = k (.bool (decide (j ≤ i))) := rfl
theorem eqv_str (x y : Str) : PyData.eqv (.str x) (.str y) = decide (x = y) := by
  show (x == y) = decide (x = y)
  by_cases h : x = y
  · subst h; simp
  · rw [decide_eq_false h]; exact beq_eq_false_iff_ne.mpr h
theorem eqv_int (i j : Int) : PyData.eqv (.int i) (.int j) = decide (i = j) := by
  simp only [PyData.eqv]
  by_cases h : i = j
  · subst h; simp
  · rw [decide_eq_false h]; exact beq_eq_false_iff_ne.mpr h
theorem eqv_bool (i j : Bool) : PyData.eqv (.bool i) (.bool j) = (i == j) := by
  simp only [PyData.eqv]
theorem r_eq : cmpC .eq (.int i) (.int j) k = k (.bool (decide (i = j))) := by
  rw [← eqv_int]; exact propext ⟨fun h => h.2, fun h => ⟨.inl ⟨_, _, rfl, rfl⟩, h⟩⟩
theorem r_eqs : cmpC .eq (.str x) (.str y) k = k (.bool (decide (x = y))) := by
  rw [← eqv_str]; exact propext ⟨fun h => h.2, fun h => ⟨.inr (.inl ⟨_, _, rfl, rfl⟩), h⟩⟩
theorem r_eqb : cmpC .eq (.bool b) (.bool c) k = k (.bool (b == c)) := by
  rw [← eqv_bool]; exact propext ⟨fun h => h.2, fun h => ⟨.inr (.inr (.inl ⟨_, _, rfl, rfl⟩)), h⟩⟩
theorem r_ne : cmpC .ne (.int i) (.int j) k = k (.bool (!decide (i = j))) := by
  rw [← eqv_int]; exact propext ⟨fun h => h.2, fun h => ⟨.inl ⟨_, _, rfl, rfl⟩, h⟩⟩
theorem r_nes : cmpC .ne (.str x) (.str y) k = k (.bool (!decide (x = y))) := by
  rw [← eqv_str]; exact propext ⟨fun h => h.2, fun h => ⟨.inr (.inl ⟨_, _, rfl, rfl⟩), h⟩⟩
theorem r_neb : cmpC .ne (.bool b) (.bool c) k = k (.bool (!(b == c))) := by
  rw [← eqv_bool]; exact propext ⟨fun h => h.2, fun h => ⟨.inr (.inr (.inl ⟨_, _, rfl, rfl⟩)), h⟩⟩
theorem r_isN : cmpC .isN d .none k = k (.bool (noneD d)) := propext ⟨fun h => h.2, fun h => ⟨rfl, h⟩⟩
theorem r_notN : cmpC .notN d .none k = k (.bool (!noneD d)) := propext ⟨fun h => h.2, fun h => ⟨rfl, h⟩⟩
theorem r_tb : truD (.bool b) = some b := rfl
theorem r_ti : truD (.int i) = some (i != 0) := rfl
theorem r_tl : truD (.list xs) = some (!xs.isEmpty) := rfl
theorem r_tt : truD (.tuple xs) = some (!xs.isEmpty) := rfl
theorem r_tn : truD .none = some false := rfl
theorem r_lenl : bltC .len [.list xs] k = k (.int xs.length) := rfl
theorem r_lent : bltC .len [.tuple xs] k = k (.int xs.length) := rfl
theorem r_lens : bltC .len [.str x] k = (x.length ≤ sizeLine ∧ k (.int x.length)) := rfl
theorem r_lenc : bltC .len [scrD ns] k = k (.int ns.length) := by
  show ((∃ ms : List Int, ns.map PyData.int = ms.map PyData.int) ∧ k (.int (ns.map PyData.int).length)) = _
  rw [List.length_map]
  exact propext ⟨fun h => h.2, fun h => ⟨⟨_, rfl⟩, h⟩⟩
theorem r_int : bltC .int [.int i] k = k (.int i) := rfl
theorem r_intb : bltC .int [.bool b] k = k (.int (if b then 1 else 0)) := rfl
theorem r_abs : bltC .abs [.int i] k = k (.int (if i < 0 then -i else i)) := rfl
theorem r_max : bltC .max [.int i, .int j] k = k (.int (if j > i then j else i)) := rfl
theorem r_min : bltC .min [.int i, .int j] k = k (.int (if j < i then j else i)) := rfl
theorem r_tuple : bltC .tuple [.list xs] k = k (.tuple xs) := rfl
theorem r_tuplet : bltC .tuple [.tuple xs] k = k (.tuple xs) := rfl
theorem r_list : bltC .list [.list xs] k = k (.list xs) := rfl
theorem r_listt : bltC .list [.tuple xs] k = k (.list xs) := rfl
theorem r_repr : bltC .repr [d] k = (reprOk d ∧ k (.str d.shown)) := rfl
theorem r_str : bltC .str [.int i] k = (i.natAbs.log2 < 1920 ∧ k (.str (toString i))) := rfl
theorem r_strs : bltC .str [.str x] k = k (.str x) := rfl
theorem r_all : bltC .all [.list xs] k = ∃ bs : List Bool, xs = bs.map PyData.bool ∧ k (.bool (bs.all id)) := rfl
theorem r_any : bltC .any [.list xs] k = ∃ bs : List Bool, xs = bs.map PyData.bool ∧ k (.bool (bs.any id)) := rfl
theorem r_idxl : idxC (.list xs) (.int i) k = ∃ d, atI xs i = some d ∧ k d := rfl
theorem r_idxt : idxC (.tuple xs) (.int i) k = ∃ d, atI xs i = some d ∧ k d := rfl
theorem r_idxs : idxC (.str x) (.int i) k = (x.length ≤ sizeLine ∧ ∃ c, atI x.cps.toList i = some c ∧ k (.str ⟨#[c]⟩)) := rfl
theorem r_idxc : idxC (scrD ns) (.int i) k = ∃ m, atI ns i = some m ∧ k (.int m) := by
  show ((∃ ms : List Int, ns.map PyData.int = ms.map PyData.int) ∧ ∃ d, atI (ns.map PyData.int) i = some d ∧ k d) = _
  have e : atI (ns.map PyData.int) i = (atI ns i).map PyData.int := by
    unfold atI
    rw [List.length_map]
    cases ixN ns.length i with
    | none => rfl
    | some j => simp
  rw [e]
  refine propext ⟨fun h => ?_, fun h => ⟨⟨_, rfl⟩, ?_⟩⟩
  · obtain ⟨_, d, h1, h2⟩ := h
    cases h3 : atI ns i with
    | none => rw [h3] at h1; cases h1
    | some m => rw [h3] at h1; cases h1; exact ⟨m, rfl, h2⟩
  · obtain ⟨m, h1, h2⟩ := h
    exact ⟨_, by rw [h1]; rfl, h2⟩
variable {lo hi : Option Int}
theorem r_slcl : slcC (.list xs) lo hi k = k (.list (cutL xs lo hi)) := rfl
theorem r_slct : slcC (.tuple xs) lo hi k = k (.tuple (cutL xs lo hi)) := rfl
theorem r_slcs : slcC (.str x) lo hi k = (x.length ≤ sizeLine ∧ k (.str (cutS x lo hi))) := rfl
theorem cutL_map {α β : Type} (f : α → β) (xs : List α) : cutL (xs.map f) lo hi = (cutL xs lo hi).map f := by
  unfold cutL
  rw [List.length_map, ← List.map_drop, ← List.map_take]
theorem r_slcc : slcC (scrD ns) lo hi k = k (.list ((cutL ns lo hi).map PyData.int)) := by
  show ((∃ ms : List Int, ns.map PyData.int = ms.map PyData.int) ∧ k (.list (cutL (ns.map PyData.int) lo hi))) = _
  rw [cutL_map]
  exact propext ⟨fun h => h.2, fun h => ⟨⟨_, rfl⟩, h⟩⟩
variable {p : List D → Prop}
theorem r_iteml : itemsC (.list xs) p = p xs := rfl
theorem r_itemt : itemsC (.tuple xs) p = p xs := rfl
theorem r_items : itemsC (.str x) p = p (x.cps.toList.map fun c => .str ⟨#[c]⟩) := rfl
theorem r_call {a : FS} {s : List Src} {P : FS → List Src → Prop} : (∃ fs src, a = fs ∧ s = src ∧ P fs src) = P a s := propext ⟨fun ⟨_, _, e1, e2, h⟩ => by subst e1; subst e2; exact h, fun h => ⟨_, _, rfl, rfl, h⟩⟩
theorem r_in_s {c : Nat} : cmpC .mem (.str ⟨#[c]⟩) (.str y) k = k (.bool (decide (c ∈ y.cps.toList))) := by
  show (∃ c' : Nat, (⟨#[c]⟩ : Str) = ⟨#[c']⟩ ∧ k (.bool (xor false (decide (c' ∈ y.cps.toList))))) = _
  refine propext ⟨fun ⟨c', e, h⟩ => ?_, fun h => ⟨c, rfl, by rw [Bool.false_xor]; exact h⟩⟩
  have e' : c = c' := by injection e with e; injection e with e; injection e
  subst e'
  rw [Bool.false_xor] at h
  exact h
theorem r_key {P : Key → Prop} : (∃ key, PyData.int i = kD key ∧ P key) = P (.inl i) := by
  refine propext ⟨fun ⟨key, e, h⟩ => ?_, fun h => ⟨.inl i, rfl, h⟩⟩
  cases key with
  | inl j => cases e; exact h
  | inr j => cases e
theorem r_keys {P : Key → Prop} : (∃ key, PyData.str x = kD key ∧ P key) = P (.inr x) := by
  refine propext ⟨fun ⟨key, e, h⟩ => ?_, fun h => ⟨.inr x, rfl, h⟩⟩
  cases key with
  | inl j => cases e
  | inr j => cases e; exact h
theorem r_count : mthC .count (.str x) [.str y] k = (True ∧ k (.int (Txt.count x y))) := rfl
theorem r_str_ex {q : Prop} : ((∃ z, PyData.str x = .str z) ∧ q) = q := propext ⟨fun h => h.2, fun h => ⟨⟨_, rfl⟩, h⟩⟩
theorem r_in_l : cmpC .mem d (.list xs) k = (inOk d xs ∧ k (.bool (xs.any fun z => PyData.eqv z d))) := by
  show (inOk d xs ∧ k (.bool (xor false (xs.any fun z => PyData.eqv z d)))) = _
  rw [Bool.false_xor]
theorem r_in_t : cmpC .mem d (.tuple xs) k = (inOk d xs ∧ k (.bool (xs.any fun z => PyData.eqv z d))) := by
  show (inOk d xs ∧ k (.bool (xor false (xs.any fun z => PyData.eqv z d)))) = _
  rw [Bool.false_xor]
theorem r_isi (d : D) (ts : List String) : isiD d ts = match d with | .dict _ => none | d => some (ts.any (tyIs (tyNm d))) := rfl
end
theorem tk {α β : Type} {f : α → β} {l : List α} {i : Nat} {d : α} (h : l[i]? = some d) : (l.take i).map f ++ [f d] = (l.take (i + 1)).map f := by
  rw [List.take_add_one, h, List.map_append]
  rfl
/-- two factors, one of few bits -/
theorem cmul_r {i j : Int} (h : -(2 ^ 64) < j ∧ j < 2 ^ 64) : CMul i j ∨ CMulW i j := .inl (.inr h)
theorem cmul_l {i j : Int} (h : -(2 ^ 64) < i ∧ i < 2 ^ 64) : CMul i j ∨ CMulW i j := .inl (.inl h)
def cbWell1 : CB := (.cons (.asg 2 (.bin .add (.lit (.int 179426549)) (.bin .mul (.lit (.int 5003)) (.var 1)))) (.cons (.for_ (.v 3) (.e (.slc (.var 0) .no (.some (.lit (.int 9))))) (.cons (.asg 2 (.bin .mod (.blt .int (.cons (.bin .add (.bin .add (.bin .mul (.var 2) (.lit (.int 30011))) (.bin .mul (.bin .mod (.blt .int (.cons (.var 3) .nil)) (.lit (.int 2038074743))) (.lit (.int 7001)))) (.lit (.int 13))) .nil)) (.lit (.int 2038074743)))) .nil)) (.cons (.asg 4 (.ite (.v (.cmp .lt (.var 1) (.blt .len (.cons (.var 0) .nil)))) (.blt .int (.cons (.idx (.var 0) (.var 1)) .nil)) (.var 2))) (.cons (.asg 5 (.ite (.v (.cmp .ge (.blt .abs (.cons (.var 4) .nil)) (.bin .pow (.lit (.int 10)) (.lit (.int 18))))) (.blt .abs (.cons (.var 4) .nil)) (.lit (.int 0)))) (.cons (.asg 2 (.bin .mod (.blt .int (.cons (.bin .add (.bin .add (.bin .mul (.var 2) (.lit (.int 16807))) (.bin .mul (.bin .mod (.blt .int (.cons (.var 4) .nil)) (.lit (.int 2038074743))) (.lit (.int 39373)))) (.lit (.int 29))) .nil)) (.lit (.int 2038074743)))) (.cons (.retF (.lst (.cons (.var 5) (.cons (.var 2) (.cons (.lit (.int 0)) .nil))))) .nil))))))
def cbWell2 : CB := (.cons (.asg 2 (.bin .add (.lit (.int 70001)) (.bin .mul (.lit (.int 613)) (.var 1)))) (.cons (.for_ (.v 3) (.e (.slc (.var 0) .no (.some (.lit (.int 10))))) (.cons (.asg 2 (.bin .mod (.blt .int (.cons (.bin .add (.bin .add (.bin .mul (.var 2) (.lit (.int 30011))) (.bin .mul (.bin .mod (.blt .int (.cons (.var 3) .nil)) (.lit (.int 1000000007))) (.lit (.int 50021)))) (.lit (.int 11))) .nil)) (.lit (.int 2147483629)))) .nil)) (.cons (.asg 4 (.ite (.v (.cmp .lt (.var 1) (.blt .len (.cons (.var 0) .nil)))) (.blt .abs (.cons (.blt .int (.cons (.idx (.var 0) (.var 1)) .nil)) .nil)) (.lit (.int 0)))) (.cons (.retF (.lst (.cons (.ite (.v (.cmp .ge (.var 4) (.bin .pow (.lit (.int 10)) (.lit (.int 18))))) (.var 4) (.lit (.int 0))) (.cons (.bin .mod (.blt .int (.cons (.bin .add (.bin .add (.bin .mul (.var 2) (.lit (.int 69069))) (.bin .mul (.bin .mod (.blt .int (.cons (.var 4) .nil)) (.lit (.int 1000000007))) (.lit (.int 40009)))) (.var 1)) .nil)) (.lit (.int 2147483587))) (.cons (.lit (.int 0)) .nil))))) .nil))))

section
variable {G : Ctx}
theorem wok_of {i m : Int} (hi : 0 ≤ i) (c : Int) (h0 : 0 < c) (hc : c < 2 ^ 40) : WOk i (m % c) := by
  have h1 := Int.emod_nonneg m (b := c) (by omega)
  have h2 := Int.emod_lt_of_pos m h0
  exact ⟨hi, by omega, by omega⟩
theorem ite_both {c : Prop} [Decidable c] {A B : Prop} (h1 : A) (h2 : B) : if c then A else B := by
  split
  · exact h1
  · exact h2
theorem abs_pos (i : Int) : 0 ≤ (if i < 0 then -i else i) := by split <;> omega
theorem pow18 : CPow 10 18 := ⟨by decide, by decide, by decide⟩
theorem three_line : 0 + 1 + 1 + 1 ≤ sizeLine := by rw [sizeLine_eq]; omega
theorem well1_law (ns : List Int) (t : Int) (rf : List D → Prop) (t0 : 0 ≤ t) (t1 : t < 1000) (h : ∀ i j, WOk i j → rf [.int i, .int j, .int 0]) : wb G er0 cbWell1 { nx := fun _ => False, rt := fun _ => False, rf := rf } [.d (scrD ns), .d (.int t), .no, .no, .no, .no] := by
  unfold cbWell1
  simp only [wb, ws, rd, rq, rg, rl, rp, ri, rn, tgt, setAll, wipeL, Lit.d, Src.dat, List.set_cons_zero, List.set_cons_succ, List.getElem?_cons_zero, List.getElem?_cons_succ, List.map_cons, List.map_nil, List.cons_append, List.nil_append, List.append_nil, List.length_cons, List.length_nil, if_true, Bool.false_eq_true, if_false, Option.some.injEq, PyData.int.injEq, PyData.list.injEq, PyData.str.injEq, PyData.bool.injEq, PyData.tuple.injEq, exists_eq_left', exists_eq_left, true_and, r_sS, r_sl, r_sD, r_add, r_adds, r_addl, r_addt, r_sub, r_mul, r_mull, r_mod, r_fdiv, r_pow, r_lt, r_le, r_gt, r_ge, r_eq, r_eqs, r_eqb, r_ne, r_nes, r_neb, r_isN, r_notN, r_tb, r_ti, r_tl, r_tt, r_tn, r_lenl, r_lent, r_lens, r_lenc, r_int, r_intb, r_abs, r_max, r_min, r_tuple, r_tuplet, r_list, r_listt, r_repr, r_str, r_strs, r_all, r_any, r_idxl, r_idxt, r_idxs, r_idxc, r_slcl, r_slct, r_slcs, r_slcc, r_iteml, r_itemt, r_items]
  refine ⟨cmul_l (by decide), fun i δ => ∃ (m : Int) (s : Sl), δ = [.d (scrD ns), .d (.int t), .d (.int m), s, .no, .no] ∧ (-(2 ^ 40) < m ∧ m < 2 ^ 40), ⟨_, _, rfl, by omega, by omega⟩, ?_, ?_⟩
  · rintro i d δ hd ⟨m, s, rfl, hm⟩
    rw [List.getElem?_map] at hd
    cases hc : (cutL ns none (some 9))[i]? with
    | none => rw [hc] at hd; cases hd
    | some c =>
      rw [hc] at hd
      cases hd
      simp only [wb, ws, rd, rq, rg, rl, rp, ri, rn, tgt, setAll, wipeL, Lit.d, Src.dat, List.set_cons_zero, List.set_cons_succ, List.getElem?_cons_zero, List.getElem?_cons_succ, List.map_cons, List.map_nil, List.cons_append, List.nil_append, List.append_nil, List.length_cons, List.length_nil, if_true, Bool.false_eq_true, if_false, Option.some.injEq, PyData.int.injEq, PyData.list.injEq, PyData.str.injEq, PyData.bool.injEq, PyData.tuple.injEq, exists_eq_left', exists_eq_left, true_and, r_sS, r_sl, r_sD, r_add, r_adds, r_addl, r_addt, r_sub, r_mul, r_mull, r_mod, r_fdiv, r_pow, r_lt, r_le, r_gt, r_ge, r_eq, r_eqs, r_eqb, r_ne, r_nes, r_neb, r_isN, r_notN, r_tb, r_ti, r_tl, r_tt, r_tn, r_lenl, r_lent, r_lens, r_lenc, r_int, r_intb, r_abs, r_max, r_min, r_tuple, r_tuplet, r_list, r_listt, r_repr, r_str, r_strs, r_all, r_any, r_idxl, r_idxt, r_idxs, r_idxc, r_slcl, r_slct, r_slcs, r_slcc, r_iteml, r_itemt, r_items]
      refine ⟨cmul_r (by decide), by decide, cmul_r (by decide), by decide, _, _, rfl, ?_⟩
      have h1 := Int.emod_nonneg (m * 30011 + c % 2038074743 * 7001 + 13) (b := 2038074743) (by decide)
      have h2 := Int.emod_lt_of_pos (m * 30011 + c % 2038074743 * 7001 + 13) (b := 2038074743) (by decide)
      constructor <;> omega
  · rintro δ ⟨m, s, rfl, hm⟩
    simp only [wb, ws, rd, rq, rg, rl, rp, ri, rn, tgt, setAll, wipeL, Lit.d, Src.dat, List.set_cons_zero, List.set_cons_succ, List.getElem?_cons_zero, List.getElem?_cons_succ, List.map_cons, List.map_nil, List.cons_append, List.nil_append, List.append_nil, List.length_cons, List.length_nil, if_true, Bool.false_eq_true, if_false, Option.some.injEq, PyData.int.injEq, PyData.list.injEq, PyData.str.injEq, PyData.bool.injEq, PyData.tuple.injEq, exists_eq_left', exists_eq_left, true_and, r_sS, r_sl, r_sD, r_add, r_adds, r_addl, r_addt, r_sub, r_mul, r_mull, r_mod, r_fdiv, r_pow, r_lt, r_le, r_gt, r_ge, r_eq, r_eqs, r_eqb, r_ne, r_nes, r_neb, r_isN, r_notN, r_tb, r_ti, r_tl, r_tt, r_tn, r_lenl, r_lent, r_lens, r_lenc, r_int, r_intb, r_abs, r_max, r_min, r_tuple, r_tuplet, r_list, r_listt, r_repr, r_str, r_strs, r_all, r_any, r_idxl, r_idxt, r_idxs, r_idxc, r_slcl, r_slct, r_slcs, r_slcc, r_iteml, r_itemt, r_items]
    have fin : ∀ z : Int, (CMul m 16807 ∨ CMulW m 16807) ∧ 0 < (2038074743 : Int) ∧ (CMul (z % 2038074743) 39373 ∨ CMulW (z % 2038074743) 39373) ∧ 0 < (2038074743 : Int) ∧ 0 + 1 + 1 + 1 ≤ sizeLine ∧ rf [.int (if z < 0 then -z else z), .int ((m * 16807 + z % 2038074743 * 39373 + 29) % 2038074743), .int 0] :=
      fun z => ⟨cmul_r (by decide), by decide, cmul_r (by decide), by decide, three_line, h _ _ (wok_of (abs_pos z) _ (by decide) (by decide))⟩
    have fin0 : ∀ z : Int, (CMul m 16807 ∨ CMulW m 16807) ∧ 0 < (2038074743 : Int) ∧ (CMul (z % 2038074743) 39373 ∨ CMulW (z % 2038074743) 39373) ∧ 0 < (2038074743 : Int) ∧ 0 + 1 + 1 + 1 ≤ sizeLine ∧ rf [.int 0, .int ((m * 16807 + z % 2038074743 * 39373 + 29) % 2038074743), .int 0] :=
      fun z => ⟨cmul_r (by decide), by decide, cmul_r (by decide), by decide, three_line, h _ _ (wok_of (Int.le_refl 0) _ (by decide) (by decide))⟩
    by_cases hl : t < ns.length
    · rw [decide_eq_true hl, if_pos rfl]
      refine ⟨ns[t.toNat]'(by omega), ?_, pow18, ?_⟩
      · unfold atI ixN
        rw [if_pos t0, if_pos hl]
        exact List.getElem?_eq_getElem (by omega)
      · exact ite_both (fin _) (fin0 _)
    · rw [decide_eq_false hl, if_neg Bool.false_ne_true]
      refine ⟨pow18, ?_⟩
      exact ite_both (fin _) (fin0 _)
theorem well2_law (ns : List Int) (t : Int) (rf : List D → Prop) (t0 : 0 ≤ t) (t1 : t < 1000) (h : ∀ i j, WOk i j → rf [.int i, .int j, .int 0]) : wb G er0 cbWell2 { nx := fun _ => False, rt := fun _ => False, rf := rf } [.d (scrD ns), .d (.int t), .no, .no, .no] := by
  unfold cbWell2
  simp only [wb, ws, rd, rq, rg, rl, rp, ri, rn, tgt, setAll, wipeL, Lit.d, Src.dat, List.set_cons_zero, List.set_cons_succ, List.getElem?_cons_zero, List.getElem?_cons_succ, List.map_cons, List.map_nil, List.cons_append, List.nil_append, List.append_nil, List.length_cons, List.length_nil, if_true, Bool.false_eq_true, if_false, Option.some.injEq, PyData.int.injEq, PyData.list.injEq, PyData.str.injEq, PyData.bool.injEq, PyData.tuple.injEq, exists_eq_left', exists_eq_left, true_and, r_sS, r_sl, r_sD, r_add, r_adds, r_addl, r_addt, r_sub, r_mul, r_mull, r_mod, r_fdiv, r_pow, r_lt, r_le, r_gt, r_ge, r_eq, r_eqs, r_eqb, r_ne, r_nes, r_neb, r_isN, r_notN, r_tb, r_ti, r_tl, r_tt, r_tn, r_lenl, r_lent, r_lens, r_lenc, r_int, r_intb, r_abs, r_max, r_min, r_tuple, r_tuplet, r_list, r_listt, r_repr, r_str, r_strs, r_all, r_any, r_idxl, r_idxt, r_idxs, r_idxc, r_slcl, r_slct, r_slcs, r_slcc, r_iteml, r_itemt, r_items]
  refine ⟨cmul_l (by decide), fun i δ => ∃ (m : Int) (s : Sl), δ = [.d (scrD ns), .d (.int t), .d (.int m), s, .no] ∧ (-(2 ^ 40) < m ∧ m < 2 ^ 40), ⟨_, _, rfl, by omega, by omega⟩, ?_, ?_⟩
  · rintro i d δ hd ⟨m, s, rfl, hm⟩
    rw [List.getElem?_map] at hd
    cases hc : (cutL ns none (some 10))[i]? with
    | none => rw [hc] at hd; cases hd
    | some c =>
      rw [hc] at hd
      cases hd
      simp only [wb, ws, rd, rq, rg, rl, rp, ri, rn, tgt, setAll, wipeL, Lit.d, Src.dat, List.set_cons_zero, List.set_cons_succ, List.getElem?_cons_zero, List.getElem?_cons_succ, List.map_cons, List.map_nil, List.cons_append, List.nil_append, List.append_nil, List.length_cons, List.length_nil, if_true, Bool.false_eq_true, if_false, Option.some.injEq, PyData.int.injEq, PyData.list.injEq, PyData.str.injEq, PyData.bool.injEq, PyData.tuple.injEq, exists_eq_left', exists_eq_left, true_and, r_sS, r_sl, r_sD, r_add, r_adds, r_addl, r_addt, r_sub, r_mul, r_mull, r_mod, r_fdiv, r_pow, r_lt, r_le, r_gt, r_ge, r_eq, r_eqs, r_eqb, r_ne, r_nes, r_neb, r_isN, r_notN, r_tb, r_ti, r_tl, r_tt, r_tn, r_lenl, r_lent, r_lens, r_lenc, r_int, r_intb, r_abs, r_max, r_min, r_tuple, r_tuplet, r_list, r_listt, r_repr, r_str, r_strs, r_all, r_any, r_idxl, r_idxt, r_idxs, r_idxc, r_slcl, r_slct, r_slcs, r_slcc, r_iteml, r_itemt, r_items]
      refine ⟨cmul_r (by decide), by decide, cmul_r (by decide), by decide, _, _, rfl, ?_⟩
      have h1 := Int.emod_nonneg (m * 30011 + c % 1000000007 * 50021 + 11) (b := 2147483629) (by decide)
      have h2 := Int.emod_lt_of_pos (m * 30011 + c % 1000000007 * 50021 + 11) (b := 2147483629) (by decide)
      constructor <;> omega
  · rintro δ ⟨m, s, rfl, hm⟩
    simp only [wb, ws, rd, rq, rg, rl, rp, ri, rn, tgt, setAll, wipeL, Lit.d, Src.dat, List.set_cons_zero, List.set_cons_succ, List.getElem?_cons_zero, List.getElem?_cons_succ, List.map_cons, List.map_nil, List.cons_append, List.nil_append, List.append_nil, List.length_cons, List.length_nil, if_true, Bool.false_eq_true, if_false, Option.some.injEq, PyData.int.injEq, PyData.list.injEq, PyData.str.injEq, PyData.bool.injEq, PyData.tuple.injEq, exists_eq_left', exists_eq_left, true_and, r_sS, r_sl, r_sD, r_add, r_adds, r_addl, r_addt, r_sub, r_mul, r_mull, r_mod, r_fdiv, r_pow, r_lt, r_le, r_gt, r_ge, r_eq, r_eqs, r_eqb, r_ne, r_nes, r_neb, r_isN, r_notN, r_tb, r_ti, r_tl, r_tt, r_tn, r_lenl, r_lent, r_lens, r_lenc, r_int, r_intb, r_abs, r_max, r_min, r_tuple, r_tuplet, r_list, r_listt, r_repr, r_str, r_strs, r_all, r_any, r_idxl, r_idxt, r_idxs, r_idxc, r_slcl, r_slct, r_slcs, r_slcc, r_iteml, r_itemt, r_items]
    have fin : ∀ z u : Int, 0 ≤ u → (CMul m 69069 ∨ CMulW m 69069) ∧ 0 < (1000000007 : Int) ∧ (CMul (z % 1000000007) 40009 ∨ CMulW (z % 1000000007) 40009) ∧ 0 < (2147483587 : Int) ∧ 0 + 1 + 1 + 1 ≤ sizeLine ∧ rf [.int u, .int ((m * 69069 + z % 1000000007 * 40009 + t) % 2147483587), .int 0] :=
      fun z u hu => ⟨cmul_r (by decide), by decide, cmul_r (by decide), by decide, three_line, h _ _ (wok_of hu _ (by decide) (by decide))⟩
    by_cases hl : t < ns.length
    · rw [decide_eq_true hl, if_pos rfl]
      refine ⟨ns[t.toNat]'(by omega), ?_, pow18, ?_⟩
      · unfold atI ixN
        rw [if_pos t0, if_pos hl]
        exact List.getElem?_eq_getElem (by omega)
      · exact ite_both (fin _ _ (abs_pos _)) (fin _ _ (Int.le_refl 0))
    · rw [decide_eq_false hl, if_neg Bool.false_ne_true]
      refine ⟨pow18, ?_⟩
      exact ite_both (fin _ _ (Int.le_refl 0)) (fin _ _ (Int.le_refl 0))
end
end FR

/-! FrW: the joints of a law's proof -/
namespace FR
open PySem L2 PyProof.Rows

/-- no def of the text lets an error out -/
def ct0 : ErT := fun _ => none
theorem df_nil {P : Str → Prop} : ∀ x, ([] : List Str).contains x = true → P x := fun x h => by simp at h
theorem df_cons {P : Str → Prop} {a : Str} {l : List Str} (h : P a) (t : ∀ x, l.contains x = true → P x) : ∀ x, (a :: l).contains x = true → P x := fun x hx => by
  rw [List.contains_cons, Bool.or_eq_true] at hx
  rcases hx with e | e
  · have := eq_of_beq e
    subst this
    exact h
  · exact t x e
theorem good_nil {P : Nat × List Str × List Src → Prop} : ∀ q ∈ ([] : List (Nat × List Str × List Src)), P q := fun q h => by simp at h
theorem good_cons {P : Nat × List Str × List Src → Prop} {a : Nat × List Str × List Src} {l : List (Nat × List Str × List Src)} (h : P a) (t : ∀ q ∈ l, P q) : ∀ q ∈ a :: l, P q := fun q hq => by
  rcases List.mem_cons.mp hq with e | e
  · subst e; exact h
  · exact t q e
theorem law_start {K : PySem.W.Frag} {H : Hp} {a : Addr} {ns : List Int} {fs : FS} (hS : SqL K H a (ns.map V.int)) (h : fs [scrD ns] (fun d => d = .bool true) er0) : spG K ct0 1 fs [.ref a] H (fun v _ => v = .bl true) fun _ _ _ => False := by
  refine ⟨rfl, H, [scrD ns], _, er0, .refl H, .cons (.scr hS) .nil, h, fun d hd v Gf G e hv => ?_, EC.none⟩
  subst hd
  cases hv
  rfl
end FR

/-! FrX: texts as lists of code points; how long a shown thing is -/
namespace FR
open PySem L2 PyProof.Rows

abbrev mk (l : List Nat) : Str := ⟨l.toArray⟩
theorem str_ext {x y : Str} (h : x.cps.toList = y.cps.toList) : x = y := by
  cases x; cases y
  congr 1
  exact Array.ext' h
theorem mk_list (x : Str) : mk x.cps.toList = x := str_ext rfl
theorem mk_inj {l m : List Nat} (h : mk l = mk m) : l = m := congrArg (fun x : Str => x.cps.toList) h
theorem mk_eq {l m : List Nat} : (mk l = mk m) ↔ l = m := ⟨mk_inj, fun h => by rw [h]⟩
theorem mk_len (l : List Nat) : (mk l).length = l.length := rfl
theorem mk_cps (l : List Nat) : (mk l).cps.toList = l := rfl
theorem mk_app (l m : List Nat) : mk l ++ mk m = mk (l ++ m) := str_ext (by show ((l.toArray) ++ (m.toArray)).toList = _; simp)
theorem mk_cut (l : List Nat) (lo hi : Option Int) : cutS (mk l) lo hi = mk (cutL l lo hi) := str_ext rfl
theorem lit_mk (s : String) : (s : Str) = mk (s.toList.map Char.toNat) := Str.ofString_eq_toList s

/-! ### how long a shown thing is -/
mutual
def wt : D → Nat
  | .none => 4
  | .bool _ => 5
  | .int i => i.natAbs.log2 + 3
  | .str x => 10 * x.length + 2
  | .list xs => wtA xs + 2
  | .tuple xs => wtA xs + 3
  | .dict _ => 0
def wtA : List D → Nat
  | [] => 0
  | x :: xs => wt x + 2 + wtA xs
end
/- every sign is one that a text may hold -/
mutual
def signsOk : D → Bool
  | .str x => x.cps.toList.all fun c => decide (c < 4294967296)
  | .list xs => signsOkA xs
  | .tuple xs => signsOkA xs
  | _ => true
def signsOkA : List D → Bool
  | [] => true
  | x :: xs => signsOk x && signsOkA xs
end
theorem str_app_len (x y : Str) : (x ++ y).length = x.length + y.length := by
  show (x.cps ++ y.cps).size = _
  simp [Str.length]
theorem textFrom_le : ∀ (ts : List Str) (k : Nat) (acc : Str), (textFrom k acc ts).length ≤ acc.length + (ts.map fun t => t.length + 2).sum
  | [], k, acc => by simp [textFrom]
  | t :: ts, k, acc => by
    rw [textFrom]
    refine Nat.le_trans (textFrom_le ts _ _) ?_
    rw [str_app_len, str_app_len, List.map_cons, List.sum_cons]
    have : ((if k > 0 then ", " else "" : String) : Str).length ≤ 2 := by
      split
      · exact Nat.le_of_eq (by decide +kernel)
      · exact Nat.le_trans (Nat.le_of_eq (by decide +kernel : ((("" : String) : Str)).length = 0)) (by omega)
    omega
theorem join_le : ∀ (ts : List Str), (Str.join ", " ts).length ≤ (ts.map fun t => t.length + 2).sum
  | [] => by simp [Str.join, Str.empty, Str.length]
  | t :: ts => by
    have h := PySem.join_length_add (t :: ts) (by simp)
    unfold piled at h
    omega
theorem digits_le (i : Int) : (PyData.int i).shown.length ≤ i.natAbs.log2 + 3 := by
  show (Str.ofString (toString i)).length ≤ _
  rw [Str.ofString_eq_toList]
  have h := int_text_length_le (a := i) (k := i.natAbs.log2 + 1) (by omega) (by omega)
  show (((toString i).toList.map Char.toNat).toArray).size ≤ _
  rw [List.size_toArray, List.length_map, String.length_toList]
  omega
mutual
theorem shown_le : ∀ d : D, plain d = true → signsOk d = true → d.shown.length ≤ wt d
  | .none, _, _ => by show ((("None" : String)) : Str).length ≤ 4; exact Nat.le_of_eq (by decide +kernel)
  | .bool b, _, _ => by cases b <;> exact Nat.le_trans (Nat.le_of_eq (by first | exact (by decide +kernel : ((("False" : String)) : Str).length = 5) | exact (by decide +kernel : ((("True" : String)) : Str).length = 4))) (by show _ ≤ 5; omega)
  | .int i, _, _ => digits_le i
  | .str x, _, h => by
    refine StrLaws.reprText_len x fun c hc => ?_
    unfold signsOk at h
    have := List.all_eq_true.mp h c hc
    exact of_decide_eq_true this
  | .list xs, h1, h2 => by
    have ih := shownA_le xs (by simpa [plain] using h1) (by simpa [signsOk] using h2)
    show (textFrom 0 "[" (PyData.shownAll xs) ++ ("]" : Str)).length ≤ wtA xs + 2
    rw [str_app_len]
    have h3 := textFrom_le (PyData.shownAll xs) 0 "["
    have h4 : ((("[" : String)) : Str).length = 1 := by decide +kernel
    have h5 : ((("]" : String)) : Str).length = 1 := by decide +kernel
    omega
  | .tuple xs, h1, h2 => by
    have ih := shownA_le xs (by simpa [plain] using h1) (by simpa [signsOk] using h2)
    show (("(" : Str) ++ Str.join ", " (PyData.shownAll xs) ++ ((if (PyData.shownAll xs).length == 1 then ",)" else ")" : String) : Str)).length ≤ wtA xs + 3
    rw [str_app_len, str_app_len]
    have h3 := join_le (PyData.shownAll xs)
    have h4 : ((("(" : String)) : Str).length = 1 := by decide +kernel
    have h5 : (((if (PyData.shownAll xs).length == 1 then ",)" else ")" : String)) : Str).length ≤ 2 := by
      split
      · exact Nat.le_of_eq (by decide +kernel)
      · exact Nat.le_trans (Nat.le_of_eq (by decide +kernel : (((")" : String)) : Str).length = 1)) (by omega)
    omega
  | .dict _, h, _ => by simp [plain] at h
theorem shownA_le : ∀ xs : List D, plainA xs = true → signsOkA xs = true → ((PyData.shownAll xs).map fun t => t.length + 2).sum ≤ wtA xs
  | [], _, _ => by simp [PyData.shownAll, wtA]
  | x :: xs, h1, h2 => by
    have p : plain x = true ∧ plainA xs = true := by simpa [plainA] using h1
    have q : signsOk x = true ∧ signsOkA xs = true := by simpa [signsOkA] using h2
    have a := shown_le x p.1 q.1
    have b := shownA_le xs p.2 q.2
    rw [PyData.shownAll, List.map_cons, List.sum_cons, wtA]
    omega
end
theorem repr_ok {d : D} (h1 : plain d = true) (h2 : d.showable = true) (h3 : d.depth ≤ 64) (h4 : signsOk d = true) (h5 : wt d ≤ 16777216) : reprOk d := ⟨h1, h2, h3, by rw [sizeLine_eq]; exact Nat.le_trans (shown_le d h1 h4) h5⟩

/-! ### cuts -/
theorem cutL_to {α : Type} (l : List α) (n : Nat) : cutL l none (some (n : Int)) = l.take n := by
  unfold cutL
  rw [HT.sIx_none, HT.sIx_nat, List.drop_zero, Nat.sub_zero]
  by_cases h : n ≤ l.length
  · rw [Nat.min_eq_left h]
  · rw [Nat.min_eq_right (by omega), List.take_of_length_le (Nat.le_refl _), List.take_of_length_le (by omega)]
theorem cutL_from {α : Type} (l : List α) (n : Nat) : cutL l (some (n : Int)) none = l.drop n := by
  unfold cutL
  rw [HT.sIx_none, HT.sIx_nat]
  by_cases h : n ≤ l.length
  · rw [Nat.min_eq_left h, List.take_of_length_le (by rw [List.length_drop]; exact Nat.le_refl _)]
  · rw [Nat.min_eq_right (by omega), List.drop_of_length_le (Nat.le_refl _), List.drop_of_length_le (by omega), List.take_nil]
theorem cutL_last {α : Type} (l : List α) : cutL l none (some (-1)) = l.dropLast := by
  unfold cutL
  rw [HT.sIx_none, List.drop_zero, Nat.sub_zero]
  show l.take ((-1 : Int) + (l.length : Int)).toNat = _
  rw [List.dropLast_eq_take]
  congr 1
  omega
theorem atI_neg1L {α : Type} (l : List α) : atI l (-1) = l.getLast? := by
  by_cases h : 0 < l.length
  · rw [atI_neg1 h, List.getLast?_eq_getElem?]
  · have : l = [] := List.eq_nil_of_length_eq_zero (by omega)
    subst this
    rfl
theorem atI_natL {α : Type} (l : List α) (n : Nat) : atI l (n : Int) = l[n]? := by
  unfold atI ixN
  rw [if_pos (by omega)]
  by_cases h : n < l.length
  · rw [if_pos (by omega)]; rfl
  · rw [if_neg (by omega), List.getElem?_eq_none (by omega)]; rfl
theorem atI_posL {α : Type} (l : List α) {i : Int} (h : 0 ≤ i) : atI l i = l[i.toNat]? := by
  have := atI_natL l i.toNat
  rwa [Int.toNat_of_nonneg h] at this

/-! ### dicts of ints as keys -/
theorem nodup_len {α : Type} [DecidableEq α] : ∀ {l m : List α}, l.Nodup → (∀ x ∈ l, x ∈ m) → l.length ≤ m.length
  | [], _, _, _ => Nat.zero_le _
  | a :: l, m, hn, h => by
    have ha := h a List.mem_cons_self
    have h2 := nodup_len (l := l) (m := m.erase a) (List.nodup_cons.mp hn).2 fun x hx => by
      have hne : x ≠ a := fun z => (List.nodup_cons.mp hn).1 (z ▸ hx)
      exact (List.mem_erase_of_ne hne).mpr (h x (List.mem_cons_of_mem _ hx))
    rw [List.length_erase_of_mem ha] at h2
    have := List.length_pos_of_mem ha
    rw [List.length_cons]
    omega
theorem nodup_bound {l : List Int} {B : Nat} (hn : l.Nodup) (h : ∀ z ∈ l, 0 ≤ z ∧ z ≤ B) : l.length ≤ B + 1 := by
  have := nodup_len (m := (List.range (B + 1)).map fun (n : Nat) => (n : Int)) hn fun x hx => by
    have := h x hx
    exact List.mem_map.mpr ⟨x.toNat, List.mem_range.mpr (by omega), by omega⟩
  rwa [List.length_map, List.length_range] at this
/-- the keys of a dict are these ints, each once -/
structure KI (kvs : List (Key × D)) (ns : List Int) : Prop where
  keys : kvs.map (·.1) = ns.map Sum.inl
  nd : ns.Nodup
theorem KI.nil : KI [] [] := ⟨rfl, List.nodup_nil⟩
theorem KI.mem {kvs : List (Key × D)} {ns : List Int} (h : KI kvs ns) (z : Int) : (kvs.any fun kv => decide (kv.1 = .inl z)) = decide (z ∈ ns) := by
  have e : (kvs.any fun kv => decide (kv.1 = .inl z)) = ((kvs.map (·.1)).any fun k => decide (k = .inl z)) := by rw [List.any_map]; rfl
  rw [e, h.keys, List.any_map]
  by_cases hz : z ∈ ns
  · rw [decide_eq_true hz, List.any_eq_true]
    exact ⟨z, hz, by simp⟩
  · rw [decide_eq_false hz, List.any_eq_false]
    intro x hx
    simp only [Function.comp, decide_eq_true_eq]
    intro e
    injection e with e
    subst e
    exact hz hx
theorem KI.put {kvs : List (Key × D)} {ns : List Int} (h : KI kvs ns) (z : Int) (x : D) : KI (putKD kvs (.inl z) x) (if z ∈ ns then ns else ns ++ [z]) := by
  unfold putKD
  rw [h.mem z]
  by_cases hz : z ∈ ns
  · rw [decide_eq_true hz, if_pos rfl, if_pos hz]
    refine ⟨?_, h.nd⟩
    rw [← h.keys, List.map_map]
    apply List.map_congr_left
    intro kv _
    show (if kv.1 = .inl z then (kv.1, x) else kv).1 = kv.1
    split <;> rfl
  · rw [decide_eq_false hz, if_neg Bool.false_ne_true, if_neg hz]
    refine ⟨by rw [List.map_append, List.map_append, h.keys]; rfl, ?_⟩
    rw [List.nodup_append]
    refine ⟨h.nd, by simp, fun a ha b hb e => ?_⟩
    simp at hb
    subst hb
    subst e
    exact hz ha
theorem KI.len {kvs : List (Key × D)} {ns : List Int} (h : KI kvs ns) : kvs.length = ns.length := by
  have := congrArg List.length h.keys
  rwa [List.length_map, List.length_map] at this
theorem put_mem {ns : List Int} {z y : Int} : y ∈ (if z ∈ ns then ns else ns ++ [z]) ↔ y ∈ ns ∨ y = z := by
  split
  · rename_i h
    exact ⟨.inl, fun q => q.elim id fun e => e ▸ h⟩
  · simp
end FR

/-! FrXa: small data: it may be compared and shown -/
namespace FR
open PySem L2 PyProof.Rows

/-- plain data of so much depth, shown within so many signs -/
structure Nice (n w : Nat) (d : D) : Prop where
  pl : plain d = true
  cl : d.canLay0 = true
  dp : d.depth ≤ n
  sh : d.showable = true
  so : signsOk d = true
  wt : FR.wt d ≤ w
structure NiceA (n w m : Nat) (ds : List D) : Prop where
  len : ds.length ≤ m
  at_ : ∀ d ∈ ds, Nice n w d
theorem Nice.mono {n w n' w' : Nat} {d : D} (h : Nice n w d) (h1 : n ≤ n') (h2 : w ≤ w') : Nice n' w' d := ⟨h.pl, h.cl, Nat.le_trans h.dp h1, h.sh, h.so, Nat.le_trans h.wt h2⟩
theorem Nice.none : Nice 0 4 .none := ⟨rfl, rfl, Nat.le_refl _, rfl, rfl, Nat.le_refl _⟩
theorem Nice.bool {b : Bool} : Nice 0 5 (.bool b) := ⟨rfl, rfl, Nat.le_refl _, rfl, rfl, Nat.le_refl _⟩
theorem Nice.int {i : Int} {b : Nat} (h : i.natAbs.log2 ≤ b) (hb : b < 1920) : Nice 0 (b + 3) (.int i) :=
  ⟨rfl, rfl, Nat.le_refl _, by simp only [PyData.showable]; exact decide_eq_true (by omega), rfl, by show i.natAbs.log2 + 3 ≤ _; omega⟩
theorem Nice.intB {i : Int} (h : i.natAbs < 2 ^ 100) : Nice 0 103 (.int i) := Nice.int (b := 100) (by
  by_cases h0 : i.natAbs = 0
  · rw [h0]; decide
  · have := (Nat.log2_lt h0).mpr h; omega) (by omega)
theorem Nice.nat {i : Nat} (h : i < 2 ^ 100) : Nice 0 103 (.int (i : Int)) := Nice.intB (by omega)
theorem NiceA.facts {n w : Nat} : ∀ {ds : List D}, (∀ d ∈ ds, Nice n w d) → plainA ds = true ∧ PyData.canLayAll0 ds = true ∧ PyData.depthAll ds ≤ n ∧ PyData.showableAll ds = true ∧ signsOkA ds = true ∧ wtA ds ≤ ds.length * (w + 2)
  | [], _ => ⟨rfl, rfl, Nat.zero_le _, rfl, rfl, Nat.zero_le _⟩
  | d :: ds, h => by
    have h1 := h d List.mem_cons_self
    obtain ⟨a1, a2, a3, a4, a5, a6⟩ := NiceA.facts (ds := ds) fun x hx => h x (List.mem_cons_of_mem _ hx)
    refine ⟨by rw [plainA, h1.pl, a1]; rfl, by rw [PyData.canLayAll0, h1.cl, a2]; rfl, ?_, by rw [PyData.showableAll, h1.sh, a4]; rfl, by rw [signsOkA, h1.so, a5]; rfl, ?_⟩
    · rw [PyData.depthAll]; exact Nat.max_le.mpr ⟨h1.dp, a3⟩
    · rw [wtA, List.length_cons, Nat.succ_mul]
      have := h1.wt
      omega
theorem NiceA.list {n w m : Nat} {ds : List D} (h : NiceA n w m ds) : Nice (n + 1) (m * (w + 2) + 2) (.list ds) := by
  obtain ⟨a1, a2, a3, a4, a5, a6⟩ := NiceA.facts h.at_
  have : ds.length * (w + 2) ≤ m * (w + 2) := Nat.mul_le_mul_right _ h.len
  exact ⟨by simpa [plain] using a1, by simpa [PyData.canLay0] using a2, by simpa [PyData.depth] using a3, by simpa [PyData.showable] using a4, by simpa [signsOk] using a5, by rw [FR.wt]; omega⟩
theorem NiceA.tuple {n w m : Nat} {ds : List D} (h : NiceA n w m ds) : Nice (n + 1) (m * (w + 2) + 3) (.tuple ds) := by
  obtain ⟨a1, a2, a3, a4, a5, a6⟩ := NiceA.facts h.at_
  have : ds.length * (w + 2) ≤ m * (w + 2) := Nat.mul_le_mul_right _ h.len
  exact ⟨by simpa [plain] using a1, by simpa [PyData.canLay0] using a2, by simpa [PyData.depth] using a3, by simpa [PyData.showable] using a4, by simpa [signsOk] using a5, by rw [FR.wt]; omega⟩
theorem NiceA.nil {n w : Nat} : NiceA n w 0 [] := ⟨Nat.le_refl _, fun _ h => nomatch h⟩
theorem NiceA.cons {n w m : Nat} {d : D} {ds : List D} (h : Nice n w d) (t : NiceA n w m ds) : NiceA n w (m + 1) (d :: ds) :=
  ⟨by rw [List.length_cons]; have := t.len; omega, fun x hx => by rcases List.mem_cons.mp hx with rfl | q; exact h; exact t.at_ x q⟩
theorem NiceA.map {α : Type} {n w m : Nat} {f : α → D} {l : List α} (hl : l.length ≤ m) (h : ∀ x ∈ l, Nice n w (f x)) : NiceA n w m (l.map f) :=
  ⟨by rw [List.length_map]; exact hl, fun d hd => by obtain ⟨x, hx, rfl⟩ := List.mem_map.mp hd; exact h x hx⟩
theorem Nice.repr {n w : Nat} {d : D} (h : Nice n w d) (h1 : n ≤ 64) (h2 : w ≤ 16777216) : reprOk d := repr_ok h.pl h.sh (Nat.le_trans h.dp h1) h.so (Nat.le_trans h.wt h2)
theorem Nice.shaped {n w : Nat} {d : D} (h : Nice n w d) (h1 : n ≤ 64) : SeqAt.shaped d = true := by
  unfold SeqAt.shaped
  rw [h.cl, Bool.true_and]
  exact decide_eq_true (Nat.le_trans h.dp h1)
theorem Nice.eqOk {n w n' w' : Nat} {d e : D} (h : Nice n w d) (h' : Nice n' w' e) (h1 : n ≤ 64) (h2 : n' ≤ 64) : FR.eqOk d e := .inr (.inr (.inr ⟨h.pl, h'.pl, h.shaped h1, h'.shaped h2⟩))
/-- == of equal data -/
theorem Nice.eq_self {n w : Nat} {d : D} (h : Nice n w d) : PyData.eqv d d = true := SeqAt.eqv_refl d h.cl
/-- ints, in a row -/
theorem intsA {l : List Int} {P : Int → Bool} : plainA (l.map PyData.int) = true ∧ PyData.canLayAll0 (l.map PyData.int) = true ∧ PyData.depthAll (l.map PyData.int) = 0 := by
  induction l with
  | nil => exact ⟨rfl, rfl, rfl⟩
  | cons x l ih => exact ⟨by rw [List.map_cons, plainA, ih.1]; rfl, by rw [List.map_cons, PyData.canLayAll0, ih.2.1]; rfl, by rw [List.map_cons, PyData.depthAll, ih.2.2]; rfl⟩
theorem intsT {l : List Int} : plain (.tuple (l.map PyData.int)) = true ∧ SeqAt.shaped (.tuple (l.map PyData.int)) = true := by
  obtain ⟨a, b, c⟩ := intsA (l := l) (P := fun _ => true)
  refine ⟨by simpa [plain] using a, ?_⟩
  unfold SeqAt.shaped
  rw [Bool.and_eq_true]
  exact ⟨by simpa [PyData.canLay0] using b, decide_eq_true (by rw [PyData.depth, c]; omega)⟩
theorem intsL {l : List Int} : plain (.list (l.map PyData.int)) = true ∧ SeqAt.shaped (.list (l.map PyData.int)) = true := by
  obtain ⟨a, b, c⟩ := intsA (l := l) (P := fun _ => true)
  refine ⟨by simpa [plain] using a, ?_⟩
  unfold SeqAt.shaped
  rw [Bool.and_eq_true]
  exact ⟨by simpa [PyData.canLay0] using b, decide_eq_true (by rw [PyData.depth, c]; omega)⟩
theorem eqv_ints : ∀ l m : List Int, PyData.eqvAll (l.map PyData.int) (m.map PyData.int) = decide (l = m)
  | [], [] => rfl
  | [], _ :: _ => rfl
  | _ :: _, [] => rfl
  | x :: l, y :: m => by
    rw [List.map_cons, List.map_cons, PyData.eqvAll, eqv_int, eqv_ints l m, ← Bool.decide_and]
    exact decide_eq_decide.mpr ⟨fun ⟨a, b⟩ => by rw [a, b], fun h => by injection h with a b; exact ⟨a, b⟩⟩
theorem eqC_intsT {l m : List Int} {k : KD} : cmpC .eq (.tuple (l.map PyData.int)) (.tuple (m.map PyData.int)) k = k (.bool (decide (l = m))) := by
  have e : PyData.eqv (.tuple (l.map PyData.int)) (.tuple (m.map PyData.int)) = decide (l = m) := by rw [PyData.eqv, eqv_ints]
  rw [← e]
  exact propext ⟨fun h => h.2, fun h => ⟨.inr (.inr (.inr ⟨intsT.1, intsT.1, intsT.2, intsT.2⟩)), h⟩⟩
theorem neC_intsT {l m : List Int} {k : KD} : cmpC .ne (.tuple (l.map PyData.int)) (.tuple (m.map PyData.int)) k = k (.bool (!decide (l = m))) := by
  have e : PyData.eqv (.tuple (l.map PyData.int)) (.tuple (m.map PyData.int)) = decide (l = m) := by rw [PyData.eqv, eqv_ints]
  rw [← e]
  exact propext ⟨fun h => h.2, fun h => ⟨.inr (.inr (.inr ⟨intsT.1, intsT.1, intsT.2, intsT.2⟩)), h⟩⟩
theorem eqC_intsL {l m : List Int} {k : KD} : cmpC .eq (.list (l.map PyData.int)) (.list (m.map PyData.int)) k = k (.bool (decide (l = m))) := by
  have e : PyData.eqv (.list (l.map PyData.int)) (.list (m.map PyData.int)) = decide (l = m) := by rw [PyData.eqv, eqv_ints]
  rw [← e]
  exact propext ⟨fun h => h.2, fun h => ⟨.inr (.inr (.inr ⟨intsL.1, intsL.1, intsL.2, intsL.2⟩)), h⟩⟩
theorem neC_intsL {l m : List Int} {k : KD} : cmpC .ne (.list (l.map PyData.int)) (.list (m.map PyData.int)) k = k (.bool (!decide (l = m))) := by
  have e : PyData.eqv (.list (l.map PyData.int)) (.list (m.map PyData.int)) = decide (l = m) := by rw [PyData.eqv, eqv_ints]
  rw [← e]
  exact propext ⟨fun h => h.2, fun h => ⟨.inr (.inr (.inr ⟨intsL.1, intsL.1, intsL.2, intsL.2⟩)), h⟩⟩
end FR

/-! FrWa: calls that leave parameters to their defaults -/
namespace FR
open PySem L2 PyProof.Rows

section
variable {K : PySem.W.Frag} {f : Addr} {fd : FuncData} {ps : List Str}
/-- the literals' values in a def's head -/
def dvOf : List (Nat × Lit) → List V → Prop
  | [], _ => True
  | (j, l) :: r, dvs => dvs[j]? = some l.v ∧ dvOf r dvs
def cLits : List Src → List (Nat × Lit)
  | [] => []
  | .c j l :: r => (j, l) :: cLits r
  | _ :: r => cLits r
theorem cLits_mem {j : Nat} {l : Lit} : ∀ {src : List Src}, Src.c j l ∈ src → (j, l) ∈ cLits src
  | .c i m :: r, h => by
    rcases List.mem_cons.mp h with e | e
    · cases e; exact List.mem_cons_self
    · exact List.mem_cons_of_mem _ (cLits_mem e)
  | .p _ :: r, h => by
    rcases List.mem_cons.mp h with e | e
    · cases e
    · exact cLits_mem (src := r) e
  | .k _ :: r, h => by
    rcases List.mem_cons.mp h with e | e
    · cases e
    · exact cLits_mem (src := r) e
theorem dvOf_mem {dvs : List V} {j : Nat} {l : Lit} : ∀ {r : List (Nat × Lit)}, dvOf r dvs → (j, l) ∈ r → dvs[j]? = some l.v
  | (i, m) :: r, h, e => by
    rcases List.mem_cons.mp e with e | e
    · cases e; exact h.1
    · exact dvOf_mem h.2 e
theorem du_of {src : List Src} {dvs : List V} {us : List Value} (h : dvOf (cLits src) dvs) (r : Vals dvs us) : ∀ j l, Src.c j l ∈ src → RelV l.v (us.getD j .none) := fun j l m => by
  obtain ⟨u, e1, e2⟩ := r.get (dvOf_mem h (cLits_mem m))
  rw [List.getD_eq_getElem?_getD, e1]
  exact e2
/-- keyword-only parameters left out; no other defaults -/
theorem goodKw {x qual : Str} {params : Arguments} {body : List Stmt} {scope : Scope} {kws : List (Str × V)} {n : Nat} {ks : List Str} {src : List Src} (F : FunD K x qual params body scope [] kws f fd) (hk : kws ≠ []) (hl : src.length = ps.length)
    (ms : List (Str × V)) (hms : ∀ q ∈ ms, q ∈ kws) (hc : dvOf (cLits src) (ms.map (·.2)))
    (h : ∀ (D : Addr) (doc pm : Value) (an : Option Addr) (cdv ct : Value) (us ws mv : List Value), us.length = n → ws.length = ks.length → mv.length = ms.length →
      KwChain D ((ms.map (·.1)).zip mv) (bindArgs (PySem.W.fnOf x qual params body scope .none (.ref D) doc pm an cdv ct) ⟨us, ks.zip ws⟩) (ps.zip (src.map (Src.uu (fun j => mv.getD j .none) us ws)))) : Good K fd ps n ks src := by
  obtain ⟨oc, od, dV, kV, doc, pm, an, cdv, ct, osl, rfl, lk, hcd, hD, hK⟩ := F.ex
  rcases hD with ⟨_, rfl⟩ | ⟨e, _⟩
  · rcases hK with e | ⟨D, rfl, hq⟩
    · exact absurd e hk
    · obtain ⟨mv, hlm, rk, hks⟩ := kwd_vals (ms := ms) fun q hm => hq q (hms q hm)
      exact ⟨hl, fun j => mv.getD j .none, du_of hc rk, fun s us ws X l1 l2 => BindsTo.of_looks fun M => KwChain.looks X hks (h D doc pm an cdv ct us ws mv l1 l2 hlm)⟩
  · exact absurd rfl e
/-- no keyword-only parameter left out, where the def has some -/
theorem good0K {x qual : Str} {params : Arguments} {body : List Stmt} {scope : Scope} {kws : List (Str × V)} {n : Nat} {ks : List Str} {src : List Src} (F : FunD K x qual params body scope [] kws f fd) (hl : src.length = ps.length) (hc : src.all Src.notC = true)
    (h : ∀ (kV doc pm : Value) (an : Option Addr) (cdv ct : Value) (us ws : List Value), us.length = n → ws.length = ks.length → bindArgs (PySem.W.fnOf x qual params body scope .none kV doc pm an cdv ct) ⟨us, ks.zip ws⟩ = pure (ps.zip (src.map (Src.uu (fun _ => .none) us ws)))) : Good K fd ps n ks src := good0 F hl hc h
/-- positional parameters left to their defaults (or written), no keyword-only ones left out -/
theorem goodDf {x qual : Str} {params : Arguments} {body : List Stmt} {scope : Scope} {dvs : List V} {kws : List (Str × V)} {n : Nat} {ks : List Str} {src : List Src} (F : FunD K x qual params body scope dvs kws f fd) (hd : dvs ≠ []) (hl : src.length = ps.length) (hc : dvOf (cLits src) dvs)
    (h : ∀ (T : Addr) (kV doc pm : Value) (an : Option Addr) (cdv ct : Value) (us ws its : List Value), us.length = n → ws.length = ks.length → its.length = dvs.length →
      ∃ k, bindArgs (PySem.W.fnOf x qual params body scope (.ref T) kV doc pm an cdv ct) ⟨us, ks.zip ws⟩ = seqItems? (.ref T) >>= k ∧ k (some its.toArray) = pure (ps.zip (src.map (Src.uu (fun j => its.getD j .none) us ws)))) : Good K fd ps n ks src := by
  obtain ⟨oc, od, dV, kV, doc, pm, an, cdv, ct, osl, rfl, lk, hcd, hD, hK⟩ := F.ex
  rcases hD with ⟨e, _⟩ | ⟨_, T, o, its, m, rfl, lT, oT, rT⟩
  · exact absurd e hd
  · refine ⟨hl, fun j => its.getD j .none, du_of hc rT, fun s us ws X l1 l2 => ?_⟩
    obtain ⟨k, e1, e2⟩ := h T kV doc pm an cdv ct us ws its l1 l2 rT.length.symm
    refine BindsTo.of_looks fun M => ?_
    rw [e1]
    exact looks_items X lT oT (.of_pure e2)
/-- all parameters written, whatever the defaults -/
theorem goodAll {x qual : Str} {params : Arguments} {body : List Stmt} {scope : Scope} {dvs : List V} {kws : List (Str × V)} {n : Nat} {ks : List Str} {src : List Src} (F : FunD K x qual params body scope dvs kws f fd) (hl : src.length = ps.length) (hc : src.all Src.notC = true)
    (h : ∀ (dV kV doc pm : Value) (an : Option Addr) (cdv ct : Value) (us ws : List Value), us.length = n → ws.length = ks.length → bindArgs (PySem.W.fnOf x qual params body scope dV kV doc pm an cdv ct) ⟨us, ks.zip ws⟩ = pure (ps.zip (src.map (Src.uu (fun _ => .none) us ws)))) : Good K fd ps n ks src := by
  obtain ⟨oc, od, dV, kV, doc, pm, an, cdv, ct, osl, rfl, lk, hcd, hD, hK⟩ := F.ex
  exact ⟨hl, fun _ => .none, fun j l m => (Bool.false_ne_true (List.all_eq_true.mp hc _ m)).elim, fun s us ws _ l1 l2 => .of_eq (h dV kV doc pm an cdv ct us ws l1 l2)⟩
end
end FR

/-! FrWb: the head's look, with the module's tuples of constants -/
namespace FR
open PySem L2 PyProof.Rows

abbrev TupC := Str × List He.Dv
def obsT (fa : List He.Fa) (fn : List He.DefD) (tb : List TupC) (K : PySem.W.Frag) : He.AlD := ((He.obsD fa fn K).1 && tb.all fun t => (He.Fa.glo t.1).ok K && He.tupB K t.1 t.2, (He.obsD fa fn K).2)
def SaysT (fa : List He.Fa) (fn : List He.DefD) (tb : List TupC) (K : PySem.W.Frag) : Prop := obsT fa fn tb K = He.valD fn
def obsTG (n : Nat) (fa : List He.Fa) (fn : List He.DefD) (tb : List TupC) (g : Addr → Option Obj) : He.AlD := obsT fa fn tb (He.frG g (He.asD g n))
def hookT (n : Nat) (fa : List He.Fa) (fn : List He.DefD) (tb : List TupC) : PySem.W.Hook where
  α := He.AlD
  obs := fun s => obsTG n fa fn tb s.heap.get?
  val := fun _ => He.valD fn
  says := fun _ h => ∃ K : PySem.W.Frag, K.In h ∧ SaysT fa fn tb K
  of := fun _ _ e => ⟨_, He.frG_in, e⟩
  keeps := fun _ _ _ ⟨K, hK, c⟩ k => ⟨K, PySem.W.Frag.In.keeps hK k, c⟩
theorem obsTG_eq {n : Nat} {fa : List He.Fa} {fn : List He.DefD} {tb : List TupC} {g : Addr → Option Obj} {s : Shared} (h : ∀ a, g a = s.heap.get? a) : obsTG n fa fn tb g = (hookT n fa fn tb).obs s := by
  have e : g = s.heap.get? := funext h
  rw [e] <;> rfl
theorem SaysT.both {fa : List He.Fa} {fn : List He.DefD} {tb : List TupC} {K : PySem.W.Frag} (c : SaysT fa fn tb K) : He.SaysD fa fn K ∧ ∀ t ∈ tb, (He.Fa.glo t.1).ok K = true ∧ He.tupB K t.1 t.2 = true := by
  have h1 : ((He.obsD fa fn K).1 && tb.all fun t => (He.Fa.glo t.1).ok K && He.tupB K t.1 t.2) = true := congrArg (fun z : He.AlD => z.1) c
  have h2 : (He.obsD fa fn K).2 = fn.map He.DefD.val := congrArg (fun z : He.AlD => z.2) c
  rw [Bool.and_eq_true] at h1
  refine ⟨Prod.ext h1.1 h2, fun t ht => ?_⟩
  have := List.all_eq_true.mp h1.2 t ht
  rw [Bool.and_eq_true] at this
  exact this
/-- a tuple of constants, as data -/
theorem tupC_ok {fa : List He.Fa} {fn : List He.DefD} {tb : List TupC} {K : PySem.W.Frag} {h : Heap} {mg : Str → Option Value} (X : K.In h) (G : h.Ns mainGlobals mg) (c : SaysT fa fn tb K) {x : Str} {vs : List He.Dv} {ds : List D} (hm : (x, vs) ∈ tb) (hv : ∀ H, DvA K H (vs.map (He.Dv.v K)) ds) :
    ∃ v u, mg x = some u ∧ RelV v u ∧ ∀ H, Dv K H v (.tuple ds) := by
  obtain ⟨c1, c2⟩ := c.both.2 _ hm
  exact ⟨.ref (He.ga K x), _, He.glo_ok X G c1, rfl, fun H => .tup (He.tupB_ok c2 H) (hv H)⟩
end FR

/-! FrY: limits, hours, polite rows: plain facts -/
namespace FR
open PySem L2

abbrev Pr := Int × Int
/-- the clock is open at t -/
def opn (hs : List Int) (t : Int) : Bool := hs[(t % hs.length).toNat]? == some 1
/-- too many asks, by places -/
def crw (ps : List Pr) (row : List Int) (i : Nat) : Bool := ps.any fun p => decide (p.1 ≤ i ∧ row.getD i 0 < row.getD (i - p.1.toNat) 0 + p.2)
def bad (ps : List Pr) (hs row : List Int) (i : Nat) : Bool := !opn hs (row.getD i 0) || crw ps row i
/-- the first wrong ask -/
def fw (ps : List Pr) (hs row : List Int) : Option Nat := (List.range row.length).find? (bad ps hs row)
def pol (ps : List Pr) (hs row : List Int) : Prop := ∀ i, i < row.length → bad ps hs row i = false
structure LimOk (ps : List Pr) : Prop where
  len : ps.length ≤ 4
  at_ : ∀ p ∈ ps, (1 ≤ p.1 ∧ p.1 ≤ 6) ∧ 1 ≤ p.2 ∧ p.2 ≤ 12
structure HrsOk (hs : List Int) : Prop where
  lo : 1 ≤ hs.length
  hi : hs.length ≤ 12
  at_ : ∀ h ∈ hs, h = 0 ∨ h = 1
  one : (1 : Int) ∈ hs
/-- a row: ascending, from 0 on -/
structure RowOk (row : List Int) : Prop where
  asc : row.Pairwise (· ≤ ·)
  lo : ∀ x ∈ row, 0 ≤ x
theorem fw_none {ps : List Pr} {hs row : List Int} : fw ps hs row = none ↔ pol ps hs row := by
  unfold fw pol
  rw [List.find?_eq_none]
  constructor
  · intro h i hi
    simpa using h i (List.mem_range.mpr hi)
  · intro h i hi
    rw [h i (List.mem_range.mp hi)]
    exact Bool.false_ne_true
theorem fw_some {ps : List Pr} {hs row : List Int} {d : Nat} (h : fw ps hs row = some d) : d < row.length ∧ bad ps hs row d = true ∧ ∀ i, i < d → bad ps hs row i = false := by
  unfold fw at h
  rw [List.find?_range_eq_some] at h
  obtain ⟨h1, h2, h3⟩ := h
  exact ⟨List.mem_range.mp h2, h1, fun i hi => by simpa using h3 i hi⟩
theorem fw_of {ps : List Pr} {hs row : List Int} {d : Nat} (h1 : d < row.length) (h2 : bad ps hs row d = true) (h3 : ∀ i, i < d → bad ps hs row i = false) : fw ps hs row = some d := by
  unfold fw
  rw [List.find?_range_eq_some]
  exact ⟨h2, List.mem_range.mpr h1, fun i hi => by simpa using h3 i hi⟩
theorem crw_mem {ps qs : List Pr} (h : ∀ p, p ∈ ps ↔ p ∈ qs) (row : List Int) (i : Nat) : crw ps row i = crw qs row i := by
  unfold crw
  rw [Bool.eq_iff_iff, List.any_eq_true, List.any_eq_true]
  exact ⟨fun ⟨p, a, b⟩ => ⟨p, (h p).mp a, b⟩, fun ⟨p, a, b⟩ => ⟨p, (h p).mpr a, b⟩⟩
theorem fw_mem {ps qs : List Pr} (h : ∀ p, p ∈ ps ↔ p ∈ qs) (hs row : List Int) : fw ps hs row = fw qs hs row := by
  unfold fw
  congr 1
  funext i
  unfold bad
  rw [crw_mem h]
theorem getD_take {row : List Int} {n i : Nat} (h : i < n) : (row.take n).getD i 0 = row.getD i 0 := by
  rw [List.getD_eq_getElem?_getD, List.getD_eq_getElem?_getD, List.getElem?_take_of_lt h]
theorem getD_left {a b : List Int} {i : Nat} (h : i < a.length) : (a ++ b).getD i 0 = a.getD i 0 := by
  rw [List.getD_eq_getElem?_getD, List.getD_eq_getElem?_getD, List.getElem?_append_left h]
theorem any_congr' {α : Type} {f g : α → Bool} : ∀ {l : List α}, (∀ x ∈ l, f x = g x) → l.any f = l.any g
  | [], _ => rfl
  | x :: l, h => by rw [List.any_cons, List.any_cons, h x List.mem_cons_self, any_congr' fun y hy => h y (List.mem_cons_of_mem _ hy)]
/-- what a row's beginning tells -/
theorem bad_ext {ps : List Pr} {hs row row' : List Int} {i : Nat} (h : ∀ j, j ≤ i → row.getD j 0 = row'.getD j 0) : bad ps hs row i = bad ps hs row' i := by
  unfold bad crw
  rw [h i (Nat.le_refl _)]
  congr 1
  apply any_congr'
  intro p hp
  rw [h (i - p.1.toNat) (Nat.sub_le _ _)]
theorem bad_take {ps : List Pr} {hs row : List Int} {n i : Nat} (h : i < n) : bad ps hs (row.take n) i = bad ps hs row i := bad_ext fun j hj => getD_take (by omega)
theorem fw_take {ps : List Pr} {hs row : List Int} (n : Nat) : fw ps hs (row.take n) = (fw ps hs row).filter (· < n) := by
  cases e : fw ps hs row with
  | none =>
    rw [Option.filter_none, fw_none]
    intro i hi
    rw [List.length_take] at hi
    rw [bad_take (by omega)]
    exact fw_none.mp e i (by omega)
  | some d =>
    obtain ⟨h1, h2, h3⟩ := fw_some e
    by_cases hd : d < n
    · rw [Option.filter_some, if_pos (by simpa using hd)]
      exact fw_of (by rw [List.length_take]; omega) (by rw [bad_take hd]; exact h2) fun i hi => by rw [bad_take (by omega)]; exact h3 i hi
    · rw [Option.filter_some, if_neg (by simpa using hd), fw_none]
      intro i hi
      rw [List.length_take] at hi
      rw [bad_take (by omega)]
      exact h3 i (by omega)
theorem pol_take {ps : List Pr} {hs row : List Int} (h : pol ps hs row) (n : Nat) : pol ps hs (row.take n) := fun i hi => by
  rw [List.length_take] at hi
  rw [bad_take (by omega)]
  exact h i (by omega)
/-- ahead of the first wrong ask all is polite -/
theorem pol_due {ps : List Pr} {hs row : List Int} {d : Nat} (h : fw ps hs row = some d) : pol ps hs (row.take d) := by
  obtain ⟨h1, h2, h3⟩ := fw_some h
  intro i hi
  rw [List.length_take] at hi
  rw [bad_take (by omega)]
  exact h3 i (by omega)
theorem RowOk.take {row : List Int} (h : RowOk row) (n : Nat) : RowOk (row.take n) := ⟨h.asc.sublist (List.take_sublist n row), fun x hx => h.lo x (List.mem_of_mem_take hx)⟩
theorem RowOk.snoc {row : List Int} {t : Int} (h : RowOk row) (h0 : 0 ≤ t) (hl : ∀ x, row.getLast? = some x → x ≤ t) : RowOk (row ++ [t]) := by
  refine ⟨?_, fun x hx => ?_⟩
  · rw [List.pairwise_append]
    refine ⟨h.asc, List.pairwise_singleton _ _, fun x hx y hy => ?_⟩
    rw [List.mem_singleton.mp hy]
    cases e : row.getLast? with
    | none => rw [List.getLast?_eq_none_iff] at e; subst e; cases hx
    | some z =>
      refine Int.le_trans ?_ (hl z e)
      obtain ⟨l, rfl⟩ : ∃ l, row = l ++ [z] := List.getLast?_eq_some_iff.mp e
      rcases List.mem_append.mp hx with q | q
      · have := h.asc
        rw [List.pairwise_append] at this
        exact this.2.2 x q z (List.mem_singleton.mpr rfl)
      · rw [List.mem_singleton.mp q]; exact Int.le_refl _
  · rcases List.mem_append.mp hx with q | q
    · exact h.lo x q
    · rw [List.mem_singleton.mp q]; exact h0
theorem RowOk.get {row : List Int} (h : RowOk row) {i j : Nat} (hij : i ≤ j) (hj : j < row.length) : row.getD i 0 ≤ row.getD j 0 := by
  rw [List.getD_eq_getElem?_getD, List.getD_eq_getElem?_getD, List.getElem?_eq_getElem hj, List.getElem?_eq_getElem (by omega : i < row.length)]
  show row[i] ≤ row[j]
  by_cases e : i = j
  · subst e; exact Int.le_refl _
  · exact List.pairwise_iff_getElem.mp h.asc i j (by omega) hj (by omega)
theorem RowOk.pos {row : List Int} (h : RowOk row) (i : Nat) : 0 ≤ row.getD i 0 := by
  rw [List.getD_eq_getElem?_getD]
  cases e : row[i]? with
  | none => exact Int.le_refl _
  | some x => exact h.lo x (List.mem_of_getElem? e)

/-! ### shifts -/
theorem emod_shift {t L : Int} (hL : 0 < L) : (t + 5 * L) % L = t % L := by
  have : t + 5 * L = t + L * 5 := by rw [Int.mul_comm]
  rw [this, Int.add_mul_emod_self_left]
theorem opn_shift {hs : List Int} (h : 1 ≤ hs.length) (t : Int) : opn hs (t + 5 * hs.length) = opn hs t := by
  unfold opn
  rw [emod_shift (by omega)]
theorem opn_two {hs : List Int} (h : 1 ≤ hs.length) (t : Int) : opn (hs ++ hs) t = opn hs t := by
  unfold opn
  rw [List.length_append]
  have hL : (0 : Int) < hs.length := by omega
  have e : ((hs.length + hs.length : Nat) : Int) = 2 * (hs.length : Int) := by omega
  rw [e]
  generalize hLL : (hs.length : Int) = L at hL ⊢
  have h1 : t % (2 * L) % L = t % L := by
    rw [Int.mul_comm]; exact Int.emod_emod_of_dvd t (Int.dvd_mul_right L 2)
  have h2 := Int.emod_nonneg t (show 2 * L ≠ 0 by omega)
  have h3 := Int.emod_lt_of_pos t (show 0 < 2 * L by omega)
  by_cases q : t % (2 * L) < L
  · have e1 : t % L = t % (2 * L) := by rw [← h1]; exact Int.emod_eq_of_lt h2 q
    rw [e1, List.getElem?_append_left (by omega)]
  · have e1 : t % L = t % (2 * L) - L := by
      have : t % (2 * L) % L = (t % (2 * L) - L) % L := by rw [Int.sub_emod_right]
      rw [← h1, this]
      exact Int.emod_eq_of_lt (by omega) (by omega)
    rw [e1, List.getElem?_append_right (by omega)]
    congr 2
    omega
theorem getD_map_add {row : List Int} {c : Int} {i : Nat} (h : i < row.length) : (row.map (· + c)).getD i 0 = row.getD i 0 + c := by
  rw [List.getD_eq_getElem?_getD, List.getD_eq_getElem?_getD, List.getElem?_map, List.getElem?_eq_getElem h]
  rfl
theorem bad_shift {ps : List Pr} {hs hs' row : List Int} {c : Int} (ho : ∀ t, opn hs' (t + c) = opn hs t) {i : Nat} (hi : i < row.length) : bad ps hs' (row.map (· + c)) i = bad ps hs row i := by
  unfold bad crw
  rw [getD_map_add hi, ho]
  congr 1
  apply any_congr'
  intro p hp
  rw [getD_map_add (by omega)]
  exact decide_eq_decide.mpr ⟨fun ⟨a, b⟩ => ⟨a, by omega⟩, fun ⟨a, b⟩ => ⟨a, by omega⟩⟩
theorem fw_shift {ps : List Pr} {hs hs' row : List Int} {c : Int} (ho : ∀ t, opn hs' (t + c) = opn hs t) : fw ps hs' (row.map (· + c)) = fw ps hs row := by
  cases e : fw ps hs row with
  | none =>
    rw [fw_none]
    intro i hi
    rw [List.length_map] at hi
    rw [bad_shift ho hi]
    exact fw_none.mp e i hi
  | some d =>
    obtain ⟨h1, h2, h3⟩ := fw_some e
    exact fw_of (by rw [List.length_map]; exact h1) (by rw [bad_shift ho h1]; exact h2) fun i hi => by rw [bad_shift ho (by omega)]; exact h3 i hi

/-! ### counting -/
theorem cnt_desc {c : Int} : ∀ {r : List Int}, r.Pairwise (· ≥ ·) → ∀ m : Nat, m < (r.filter fun x => decide (c < x)).length ↔ ∃ x, r[m]? = some x ∧ c < x
  | [], _, m => by simp
  | y :: r, h, m => by
    rw [List.pairwise_cons] at h
    by_cases hy : c < y
    · rw [List.filter_cons, if_pos (decide_eq_true hy), List.length_cons]
      cases m with
      | zero => exact ⟨fun _ => ⟨y, rfl, hy⟩, fun _ => by omega⟩
      | succ m =>
        rw [List.getElem?_cons_succ, ← cnt_desc h.2 m]
        omega
    · have e : r.filter (fun x => decide (c < x)) = [] := by
        rw [List.filter_eq_nil_iff]
        intro x hx
        have := h.1 x hx
        simp only [decide_eq_true_eq]
        omega
      rw [List.filter_cons, if_neg (by simpa using hy), e]
      constructor
      · intro z; simp at z
      · rintro ⟨x, hx, hc⟩
        rcases List.mem_cons.mp (List.mem_of_getElem? hx) with q | q
        · subst q; exact absurd hc hy
        · have := h.1 x q; omega
/-- how many of the first i + 1 asks are above c -/
theorem cnt_gt {row : List Int} (h : RowOk row) {i : Nat} (hi : i < row.length) (c : Int) (m : Nat) : m < ((row.take (i + 1)).filter fun x => decide (c < x)).length ↔ m ≤ i ∧ c < row.getD (i - m) 0 := by
  have hr : ((row.take (i + 1)).reverse).Pairwise (· ≥ ·) := by
    rw [List.pairwise_reverse]
    exact (h.take (i + 1)).asc
  have e := cnt_desc (c := c) hr m
  rw [List.filter_reverse, List.length_reverse] at e
  rw [e]
  have hl : (row.take (i + 1)).length = i + 1 := by rw [List.length_take]; omega
  constructor
  · rintro ⟨x, hx, hc⟩
    have hm : m < i + 1 := by have := (List.getElem?_eq_some_iff.mp hx).1; rw [List.length_reverse, hl] at this; exact this
    rw [List.getElem?_reverse (by rw [hl]; exact hm), hl, List.getElem?_take_of_lt (by omega)] at hx
    have e2 : i + 1 - 1 - m = i - m := by omega
    rw [e2] at hx
    refine ⟨by omega, ?_⟩
    rw [List.getD_eq_getElem?_getD, hx]
    exact hc
  · rintro ⟨hm, hc⟩
    refine ⟨row.getD (i - m) 0, ?_, hc⟩
    rw [List.getElem?_reverse (by rw [hl]; omega), hl, List.getElem?_take_of_lt (by omega)]
    have e2 : i + 1 - 1 - m = i - m := by omega
    rw [e2, List.getD_eq_getElem?_getD, List.getElem?_eq_getElem (by omega)]
    rfl
/-- a limit that is passed, by counting -/
theorem cnt_crw {row : List Int} (h : RowOk row) {i : Nat} (hi : i < row.length) {p : Pr} (hp : 1 ≤ p.1) :
    decide (p.1 < (((row.take (i + 1)).filter fun x => decide (row.getD i 0 - p.2 < x)).length : Int)) = decide (p.1 ≤ i ∧ row.getD i 0 < row.getD (i - p.1.toNat) 0 + p.2) := by
  apply decide_eq_decide.mpr
  have := cnt_gt h hi (row.getD i 0 - p.2) p.1.toNat
  have e : p.1 < (((row.take (i + 1)).filter fun x => decide (row.getD i 0 - p.2 < x)).length : Int) ↔ p.1.toNat < ((row.take (i + 1)).filter fun x => decide (row.getD i 0 - p.2 < x)).length := by omega
  rw [e, this]
  constructor
  · rintro ⟨a, b⟩; exact ⟨by omega, by omega⟩
  · rintro ⟨a, b⟩; exact ⟨by omega, by omega⟩
/-- the same, moment by moment -/
theorem sum_counts {l : List Int} {t : Int} : ∀ s : Nat, ((List.range s).map fun (b : Nat) => (l.count (t - (b : Int)) : Int)).sum = ((l.filter fun x => decide (t - s < x ∧ x ≤ t)).length : Int)
  | 0 => by
    have : l.filter (fun x => decide (t - (0 : Nat) < x ∧ x ≤ t)) = [] := by
      rw [List.filter_eq_nil_iff]; intro x _; simp only [decide_eq_true_eq]; omega
    rw [this]; rfl
  | s + 1 => by
    rw [List.range_succ, List.map_append, List.sum_append, sum_counts s, List.map_singleton, List.sum_singleton]
    induction l with
    | nil => rfl
    | cons x l ih =>
      rw [List.filter_cons, List.filter_cons, List.count_cons]
      by_cases h1 : t - s < x ∧ x ≤ t
      · rw [if_pos (decide_eq_true h1), if_pos (decide_eq_true (by omega : t - ((s + 1 : Nat) : Int) < x ∧ x ≤ t)), List.length_cons, List.length_cons, if_neg (by simp; omega)]
        omega
      · rw [if_neg (by simpa using h1)]
        by_cases h2 : x = t - (s : Int)
        · rw [if_pos (decide_eq_true (by omega : t - ((s + 1 : Nat) : Int) < x ∧ x ≤ t)), List.length_cons, if_pos (by simpa using h2)]
          omega
        · have n1 : ¬ (decide (t - ((s + 1 : Nat) : Int) < x ∧ x ≤ t) = true) := by rw [decide_eq_true_eq]; omega
          have n2 : ¬ ((x == t - (s : Int)) = true) := by simpa using h2
          rw [if_neg n1, if_neg n2]
          omega
/-! ### a dict's pairs -/
theorem getKD_put (kvs : List (Key × D)) (k k' : Key) (v : D) : getKD (putKD kvs k v) k' = if k = k' then some v else getKD kvs k' := by
  unfold putKD
  by_cases h : (kvs.any fun kv => decide (kv.1 = k)) = true
  · rw [if_pos h]
    induction kvs with
    | nil => simp at h
    | cons p kvs ih =>
      unfold getKD at ih ⊢
      rw [List.map_cons, List.find?_cons, List.find?_cons]
      by_cases hp : p.1 = k
      · rw [if_pos hp]
        subst hp
        by_cases hk : p.1 = k'
        · subst hk; simp
        · rw [if_neg hk]
          have e1 : decide (p.1 = k') = false := decide_eq_false hk
          rw [e1]
          by_cases h2 : (kvs.any fun kv => decide (kv.1 = p.1)) = true
          · have := ih h2
            rw [if_neg hk] at this
            exact this
          · have hno : ∀ q ∈ kvs, q.1 ≠ p.1 := fun q hq z => h2 (List.any_eq_true.mpr ⟨q, hq, by simpa using z⟩)
            have e3 : (kvs.map fun kv => if kv.1 = p.1 then (kv.1, v) else kv) = kvs := by
              rw [List.map_congr_left (g := id) fun q hq => by rw [if_neg (hno q hq)]; rfl]
              exact List.map_id kvs
            show Option.map (fun x => x.2) (List.find? _ (kvs.map fun kv => if kv.1 = p.1 then (kv.1, v) else kv)) = _
            rw [e3]
      · rw [if_neg hp]
        have h2 : (kvs.any fun kv => decide (kv.1 = k)) = true := by
          rw [List.any_cons, decide_eq_false hp, Bool.false_or] at h
          exact h
        have := ih h2
        by_cases hk : p.1 = k'
        · subst hk
          rw [decide_eq_true rfl, if_neg fun z => hp z.symm]
        · rw [decide_eq_false hk]
          exact this
  · rw [if_neg h]
    have hno : ∀ q ∈ kvs, q.1 ≠ k := fun q hq z => h (List.any_eq_true.mpr ⟨q, hq, by simpa using z⟩)
    unfold getKD
    rw [List.find?_append]
    by_cases hk : k = k'
    · subst hk
      rw [if_pos rfl, List.find?_eq_none.mpr fun q hq => by simpa using hno q hq]
      simp
    · rw [if_neg hk]
      have : ([(k, v)] : List (Key × D)).find? (fun kv => decide (kv.1 = k')) = none := by simp [hk]
      rw [this, Option.or_none]
theorem putKD_len (kvs : List (Key × D)) (k : Key) (v : D) : (putKD kvs k v).length ≤ kvs.length + 1 := by
  unfold putKD
  split
  · rw [List.length_map]; omega
  · rw [List.length_append]; exact Nat.le_refl _

/-! ### the soonest ask -/
/-- the bounds of the limits -/
def bnd (row : List Int) (t : Int) (p : Pr) : Int := if p.1 ≤ row.length then max t (row.getD (row.length - p.1.toNat) 0 + p.2) else t
def lowB (ps : List Pr) (row : List Int) (t : Int) : Int := ps.foldl (bnd row) t
theorem lowB_succ {ps : List Pr} {row : List Int} {n : Nat} {p : Pr} (h : ps[n]? = some p) (t : Int) : lowB (ps.take (n + 1)) row t = bnd row (lowB (ps.take n) row t) p := by
  unfold lowB
  rw [List.take_add_one, h, List.foldl_append]
  rfl
theorem lowB_ge {row : List Int} : ∀ (ps : List Pr) (t : Int), t ≤ lowB ps row t
  | [], t => Int.le_refl t
  | p :: ps, t => by
    refine Int.le_trans ?_ (lowB_ge ps (bnd row t p))
    unfold bnd
    split
    · exact Int.le_max_left _ _
    · exact Int.le_refl _
theorem lowB_at {row : List Int} : ∀ (ps : List Pr) (t : Int), ∀ p ∈ ps, p.1 ≤ row.length → row.getD (row.length - p.1.toNat) 0 + p.2 ≤ lowB ps row t
  | q :: ps, t, p, hp, h => by
    rcases List.mem_cons.mp hp with e | e
    · subst e
      refine Int.le_trans ?_ (lowB_ge ps _)
      unfold bnd
      rw [if_pos h]
      exact Int.le_max_right _ _
    · exact lowB_at ps (bnd row t q) p e h
/-- on to an open moment, at most so many steps -/
def nx (hs : List Int) : Nat → Int → Int
  | 0, t => t
  | n + 1, t => nx hs n (if opn hs t = true then t else t + 1)
theorem nx_open {hs : List Int} : ∀ n t, opn hs t = true → nx hs n t = t
  | 0, t, _ => rfl
  | n + 1, t, h => by rw [nx, if_pos h]; exact nx_open n t h
theorem nx_to {hs : List Int} : ∀ (k n : Nat) (t : Int), k ≤ n → opn hs (t + k) = true → (∀ j : Nat, j < k → opn hs (t + j) = false) → nx hs n t = t + k
  | 0, n, t, _, h, _ => by
    have e : t + ((0 : Nat) : Int) = t := by omega
    rw [e] at h ⊢
    exact nx_open n t h
  | k + 1, 0, t, hk, _, _ => by omega
  | k + 1, n + 1, t, hk, h, hno => by
    have h0 := hno 0 (by omega)
    have e : t + ((0 : Nat) : Int) = t := by omega
    rw [e] at h0
    have e1 : t + ((k + 1 : Nat) : Int) = t + 1 + k := by omega
    rw [nx, if_neg (by rw [h0]; exact Bool.false_ne_true), nx_to k n (t + 1) (by omega) (by rw [← e1]; exact h) fun j hj => ?_, e1]
    have := hno (j + 1) (by omega)
    have e2 : t + ((j + 1 : Nat) : Int) = t + 1 + j := by omega
    rwa [e2] at this
theorem nx_succ {hs : List Int} : ∀ n t, nx hs (n + 1) t = if opn hs (nx hs n t) = true then nx hs n t else nx hs n t + 1
  | 0, t => rfl
  | n + 1, t => by rw [nx, nx_succ n, nx]
/-- the first open moment from t on -/
def nxt (hs : List Int) (t : Int) : Int := nx hs hs.length t
theorem open_near {hs : List Int} (h : HrsOk hs) {t : Int} (ht : 0 ≤ t) : ∃ k : Nat, k < hs.length ∧ opn hs (t + k) = true := by
  obtain ⟨j, hj, e⟩ := List.mem_iff_getElem.mp h.one
  have hL : (0 : Int) < hs.length := by have := h.lo; omega
  have h2 := Int.emod_nonneg t (show (hs.length : Int) ≠ 0 by omega)
  have h3 := Int.emod_lt_of_pos t hL
  have hk : ∃ k : Int, 0 ≤ k ∧ k < hs.length ∧ (t + k) % hs.length = j := by
    have hd := Int.emod_add_mul_ediv t hs.length
    by_cases q : t % hs.length ≤ j
    · refine ⟨j - t % hs.length, by omega, by omega, ?_⟩
      have : t + ((j : Int) - t % hs.length) = j + hs.length * (t / hs.length) := by omega
      rw [this, Int.add_mul_emod_self_left]
      exact Int.emod_eq_of_lt (by omega) (by omega)
    · refine ⟨j + hs.length - t % hs.length, by omega, by omega, ?_⟩
      have : t + ((j : Int) + hs.length - t % hs.length) = j + hs.length * (t / hs.length + 1) := by
        rw [Int.mul_add, Int.mul_one]; omega
      rw [this, Int.add_mul_emod_self_left]
      exact Int.emod_eq_of_lt (by omega) (by omega)
  obtain ⟨k, k0, k1, e2⟩ := hk
  refine ⟨k.toNat, by omega, ?_⟩
  have e1 : ((k.toNat : Nat) : Int) = k := by omega
  rw [e1]
  unfold opn
  rw [e2]
  have : ((j : Int)).toNat = j := by omega
  rw [this, List.getElem?_eq_getElem hj, e]
  rfl
theorem least_nat {P : Nat → Prop} : ∀ {n : Nat}, P n → ∃ k, k ≤ n ∧ P k ∧ ∀ j, j < k → ¬ P j := by
  intro n
  induction n using Nat.strongRecOn with
  | ind n ih =>
    intro h
    rcases Classical.em (∃ j, j < n ∧ P j) with q | q
    · obtain ⟨j, hj, hp⟩ := q
      obtain ⟨k, h1, h2, h3⟩ := ih j hj hp
      exact ⟨k, by omega, h2, h3⟩
    · exact ⟨n, Nat.le_refl _, h, fun j hj hp => q ⟨j, hj, hp⟩⟩
theorem nxt_is {hs : List Int} (h : HrsOk hs) {t : Int} (ht : 0 ≤ t) : ∃ k : Nat, k < hs.length ∧ nxt hs t = t + k ∧ opn hs (t + k) = true ∧ ∀ j : Nat, j < k → opn hs (t + j) = false := by
  obtain ⟨n, hn, ho⟩ := open_near h ht
  obtain ⟨k, h1, h2, h3⟩ := least_nat (P := fun k => opn hs (t + (k : Nat)) = true) ho
  have h4 : ∀ j : Nat, j < k → opn hs (t + j) = false := fun j hj => by simpa using h3 j hj
  exact ⟨k, by omega, nx_to k _ t (by omega) h2 h4, h2, h4⟩
theorem nxt_ge {hs : List Int} (h : HrsOk hs) {t : Int} (ht : 0 ≤ t) : t ≤ nxt hs t := by
  obtain ⟨k, _, e, _⟩ := nxt_is h ht; omega
theorem nxt_open {hs : List Int} (h : HrsOk hs) {t : Int} (ht : 0 ≤ t) : opn hs (nxt hs t) = true := by
  obtain ⟨k, _, e, h1, _⟩ := nxt_is h ht; rw [e]; exact h1
/-- the last ask, 0 without one -/
def lst0 (row : List Int) : Int := row.getLast?.getD 0
def soon1 (ps : List Pr) (hs row : List Int) (start : Int) : Int := nxt hs (lowB ps row (max start (lst0 row)))
theorem RowOk.lst {row : List Int} (h : RowOk row) : 0 ≤ lst0 row := by
  unfold lst0
  cases e : row.getLast? with
  | none => exact Int.le_refl _
  | some x => exact h.lo x (List.mem_of_getLast? e)
theorem soon1_ge {ps : List Pr} {hs row : List Int} (hh : HrsOk hs) (hr : RowOk row) (start : Int) : max start (lst0 row) ≤ soon1 ps hs row start := by
  have h0 := lowB_ge (row := row) ps (max start (lst0 row))
  have h1 := hr.lst
  have h2 : 0 ≤ max start (lst0 row) := Int.le_trans h1 (Int.le_max_right _ _)
  exact Int.le_trans h0 (nxt_ge hh (Int.le_trans h2 h0))
theorem getD_snoc {row : List Int} {t : Int} : (row ++ [t]).getD row.length 0 = t := by
  rw [List.getD_eq_getElem?_getD, List.getElem?_append_right (Nat.le_refl _), Nat.sub_self]; rfl
theorem pol_snoc {ps : List Pr} {hs row : List Int} {t : Int} (h : pol ps hs row) (ho : opn hs t = true) (hb : ∀ p ∈ ps, 1 ≤ p.1 → p.1 ≤ row.length → row.getD (row.length - p.1.toNat) 0 + p.2 ≤ t) (hp : ∀ p ∈ ps, 1 ≤ p.1) : pol ps hs (row ++ [t]) := by
  intro i hi
  rw [List.length_append, List.length_singleton] at hi
  by_cases e : i < row.length
  · rw [bad_ext (row' := row) fun j hj => getD_left (by omega)]
    exact h i e
  · have e : i = row.length := by omega
    subst e
    unfold bad crw
    rw [getD_snoc, ho, Bool.not_true, Bool.false_or, List.any_eq_false]
    intro p hp'
    rw [decide_eq_true_eq]
    rintro ⟨a, b⟩
    have hp1 := hp p hp'
    rw [getD_left (by omega)] at b
    have := hb p hp' hp1 a
    omega
theorem soon1_pol {ps : List Pr} {hs row : List Int} (hq : LimOk ps) (hh : HrsOk hs) (hr : RowOk row) (h : pol ps hs row) {start : Int} : pol ps hs (row ++ [soon1 ps hs row start]) := by
  have h1 := hr.lst
  have h2 : 0 ≤ max start (lst0 row) := Int.le_trans h1 (Int.le_max_right _ _)
  have h3 := lowB_ge (row := row) ps (max start (lst0 row))
  refine pol_snoc h (nxt_open hh (Int.le_trans h2 h3)) (fun p hp h4 h5 => ?_) fun p hp => (hq.at_ p hp).1.1
  exact Int.le_trans (lowB_at ps _ p hp h5) (nxt_ge hh (Int.le_trans h2 h3))
theorem soon1_okR {ps : List Pr} {hs row : List Int} (hh : HrsOk hs) (hr : RowOk row) {start : Int} : RowOk (row ++ [soon1 ps hs row start]) := by
  have h := soon1_ge (ps := ps) hh hr start
  refine hr.snoc (Int.le_trans (Int.le_trans hr.lst (Int.le_max_right _ _)) h) fun x hx => ?_
  refine Int.le_trans ?_ h
  unfold lst0
  rw [hx]
  exact Int.le_max_right _ _
/-- some asks as soon as may be -/
def soonL (ps : List Pr) (hs : List Int) (start : Int) : Nat → List Int → List Int
  | 0, row => row
  | n + 1, row => soonL ps hs start n (row ++ [soon1 ps hs row start])
theorem soonL_succ {ps : List Pr} {hs : List Int} {start : Int} : ∀ (n : Nat) (row : List Int), soonL ps hs start (n + 1) row = soonL ps hs start n row ++ [soon1 ps hs (soonL ps hs start n row) start]
  | 0, row => rfl
  | n + 1, row => by rw [soonL, soonL_succ n, soonL]
theorem soonL_len {ps : List Pr} {hs : List Int} {start : Int} : ∀ (n : Nat) (row : List Int), (soonL ps hs start n row).length = row.length + n
  | 0, row => rfl
  | n + 1, row => by rw [soonL, soonL_len n, List.length_append, List.length_singleton]; omega
theorem soonL_pre {ps : List Pr} {hs : List Int} {start : Int} : ∀ (n : Nat) (row : List Int), ∃ l, soonL ps hs start n row = row ++ l ∧ l.length = n
  | 0, row => ⟨[], by simp [soonL], rfl⟩
  | n + 1, row => by
    obtain ⟨l, e, hl⟩ := soonL_pre n (row ++ [soon1 ps hs row start])
    exact ⟨soon1 ps hs row start :: l, by rw [soonL, e, List.append_assoc]; rfl, by rw [List.length_cons, hl]⟩
theorem soonL_ok {ps : List Pr} {hs : List Int} {start : Int} (hq : LimOk ps) (hh : HrsOk hs) : ∀ (n : Nat) {row : List Int}, RowOk row → pol ps hs row → RowOk (soonL ps hs start n row) ∧ pol ps hs (soonL ps hs start n row)
  | 0, row, h1, h2 => ⟨h1, h2⟩
  | n + 1, row, h1, h2 => soonL_ok hq hh n (soon1_okR hh h1) (soon1_pol hq hh h1 h2)

/-! ### parts of polite rows -/
theorem pw_gap {js : List Nat} (h : js.Pairwise (· < ·)) : ∀ {i m : Nat}, m ≤ i → i < js.length → js.getD (i - m) 0 + m ≤ js.getD i 0 := by
  intro i m
  induction m with
  | zero => intro _ _; exact Nat.le_refl _
  | succ m ih =>
    intro hm hi
    have h1 := ih (by omega) hi
    have h2 : js.getD (i - (m + 1)) 0 < js.getD (i - m) 0 := by
      rw [List.getD_eq_getElem?_getD, List.getD_eq_getElem?_getD, List.getElem?_eq_getElem (by omega : i - (m + 1) < js.length), List.getElem?_eq_getElem (by omega : i - m < js.length)]
      exact List.pairwise_iff_getElem.mp h _ _ (by omega) (by omega) (by omega)
    omega
theorem pol_part {ps : List Pr} {hs row : List Int} (hq : ∀ p ∈ ps, 1 ≤ p.1) (hr : RowOk row) (h : pol ps hs row) {js : List Nat} (hj : js.Pairwise (· < ·)) (hb : ∀ j ∈ js, j < row.length) : pol ps hs (js.map fun j => row.getD j 0) ∧ RowOk (js.map fun j => row.getD j 0) := by
  have at_ : ∀ i, i < js.length → (js.map fun j => row.getD j 0).getD i 0 = row.getD (js.getD i 0) 0 := fun i hi => by
    rw [List.getD_eq_getElem?_getD, List.getElem?_map, List.getD_eq_getElem?_getD (l := js), List.getElem?_eq_getElem hi]; rfl
  have lt : ∀ i, i < js.length → js.getD i 0 < row.length := fun i hi => by
    rw [List.getD_eq_getElem?_getD, List.getElem?_eq_getElem hi]
    exact hb _ (List.getElem_mem hi)
  refine ⟨fun i hi => ?_, ?_, fun x hx => ?_⟩
  · rw [List.length_map] at hi
    have hbad := h _ (lt i hi)
    unfold bad crw at hbad ⊢
    rw [Bool.or_eq_false_iff] at hbad ⊢
    rw [at_ i hi]
    refine ⟨hbad.1, ?_⟩
    rw [List.any_eq_false] at hbad ⊢
    intro p hp z
    rw [decide_eq_true_eq] at z
    obtain ⟨z1, z2⟩ := z
    have hp1 := hq p hp
    rw [at_ _ (by omega)] at z2
    have g := pw_gap hj (i := i) (m := p.1.toNat) (by omega) hi
    refine hbad.2 p hp ?_
    rw [decide_eq_true_eq]
    have le := hr.get (i := js.getD (i - p.1.toNat) 0) (j := js.getD i 0 - p.1.toNat) (by omega) (by have := lt i hi; omega)
    exact ⟨by omega, by omega⟩
  · rw [List.pairwise_map]
    exact hj.imp_of_mem fun {a b} ha hb' hab => hr.get (by omega) (hb b hb')
  · obtain ⟨j, _, rfl⟩ := List.mem_map.mp hx
    exact hr.pos j

/-- the last one, as a list -/
theorem cutL_end {α : Type} (l : List α) : cutL l (some (-1)) none = l.getLast?.toList := by
  unfold cutL
  rw [HT.sIx_none]
  have e : HT.sIx l.length 0 (some (-1)) = l.length - 1 := by
    show ((-1 : Int) + (l.length : Int)).toNat = _
    omega
  rw [e]
  cases h : l.getLast? with
  | none => rw [List.getLast?_eq_none_iff] at h; subst h; rfl
  | some x =>
    obtain ⟨m, rfl⟩ := List.getLast?_eq_some_iff.mp h
    have e2 : (m ++ [x]).length - 1 = m.length := by rw [List.length_append, List.length_singleton]; omega
    rw [e2, List.drop_left]
    have e3 : (m ++ [x]).length - m.length = 1 := by rw [List.length_append, List.length_singleton]; omega
    rw [e3]
    rfl
/-- max([a] + row[-1:]) -/
theorem max_end {row : List Int} {a : Int} {k : KD} (h : row = [] → 0 ≤ a) (hk : k (.int (max a (lst0 row)))) :
    bltC .max [.list (PyData.int a :: cutL (row.map PyData.int) (some (-1)) none)] k := by
  show ∃ ns : List Int, _ ∧ 0 < ns.length ∧ _
  rw [cutL_end, List.getLast?_map]
  cases e : row.getLast? with
  | none =>
    refine ⟨[a], rfl, by simp, fun m hm _ => ?_⟩
    rw [List.mem_singleton.mp hm]
    unfold lst0 at hk
    rw [e] at hk
    have h0 := h (List.getLast?_eq_none_iff.mp e)
    rwa [show max a ((none : Option Int).getD 0) = a from Int.max_eq_left h0] at hk
  | some x =>
    refine ⟨[a, x], rfl, by simp, fun m hm hle => ?_⟩
    unfold lst0 at hk
    rw [e] at hk
    have h1 := hle a (by simp)
    have h2 := hle x (by simp)
    have : max a x = m := by
      rcases List.mem_cons.mp hm with q | q
      · subst q; exact Int.max_eq_left h2
      · rw [List.mem_singleton] at q; subst q; exact Int.max_eq_right h1
    rwa [show max a ((some x).getD 0) = m from this] at hk
/-! ### readings by equations -/
section
variable {xs ys : List D} {k : KD} {i j : Int} {ns : List Int}
theorem r_revl : revC (.list xs) k = k (.list xs.reverse) := rfl
theorem r_revt : revC (.tuple xs) k = k (.tuple xs.reverse) := rfl
theorem r_tpn : ((PyData.dict [(.bool true, .tuple xs)] : D) = .dict [(.bool true, .tuple ys)]) ↔ xs = ys := by simp
theorem r_mult : binC .mul (.tuple xs) (.int j) k = ((j = 1 ∧ k (.tuple xs)) ∨ (xs ≠ [] ∧ 2 ≤ j ∧ j ≤ 1000 ∧ xs.length ≤ 1000 ∧ k (.tuple (List.replicate j.toNat xs).flatten))) := rfl
theorem r_sort : bltC .sorted [.list (ns.map .int)] k = (∃ ns' : List Int, ns.map PyData.int = ns'.map PyData.int ∧ ∀ ms : List Int, ms.Perm ns' → ms.Pairwise (· ≤ ·) → k (.list (ms.map PyData.int))) := rfl
theorem r_sumi : bltC .sum [.list xs] k = (∃ ns : List Int, xs = ns.map PyData.int ∧ k (.int ns.sum)) := rfl
theorem r_fmts {y : Str} {q : Str → Prop} : fmtP (.str y) q = q y := rfl
theorem r_fmti {q : Str → Prop} : fmtP (.int i) q = (i.natAbs.log2 < 1920 ∧ q (toString i)) := rfl
end
end FR

/-! FrZ: addresses, rows and lines of logs: plain facts -/
namespace FR
open PySem L2 PyProof.Rows

abbrev TX := List Nat
theorem num_mk (n : Nat) : (Str.ofString (toString ((n : Nat) : Int))) = mk (TL.numL n) := SX.num_S n
theorem part_at {c : Nat} {a b : TX} (h : c ∉ a) : Txt.partition (mk (a ++ c :: b)) (mk [c]) = (mk a, mk [c], mk b) := by
  refine SX.partition_some (by simp) ?_
  exact SX.par_head (sep := []) b h
theorem part_no {c : Nat} {a : TX} (h : c ∉ a) : Txt.partition (mk a) (mk [c]) = (mk a, mk [], mk []) :=
  SX.partition_none (by simp) (SX.par_head_none (sep := []) h)
theorem at_one {x : TX} {c i : Nat} : StrLaws.At (mk x) ⟨#[c]⟩ (mk x).length i ↔ x[i]? = some c := StrLaws.subAt_one (mk x) c i
theorem rpart_at {c : Nat} {a b : TX} (h : c ∉ b) : Txt.rpartition (mk (a ++ c :: b)) (mk [c]) = (mk a, mk [c], mk b) := by
  have key : Builtin.Str.lastOccurrence (mk (a ++ c :: b)) (mk [c]) 0 (mk (a ++ c :: b)).length = some a.length := by
    rcases StrLaws.last_spec (mk (a ++ c :: b)) (mk [c]) with ⟨_, hn⟩ | ⟨i, h0, hi, hn⟩
    · exact absurd (at_one.mpr (by rw [List.getElem?_append_right (Nat.le_refl _), Nat.sub_self]; rfl)) (hn a.length)
    · rw [h0]
      have h1 := at_one.mp hi
      have h2 : ¬ i < a.length := fun z => hn a.length z (at_one.mpr (by rw [List.getElem?_append_right (Nat.le_refl _), Nat.sub_self]; rfl))
      congr 1
      refine Nat.le_antisymm ?_ (by omega)
      refine Nat.le_of_not_lt fun z => ?_
      rw [List.getElem?_append_right (by omega)] at h1
      obtain ⟨k, hk⟩ : ∃ k, i - a.length = k + 1 := ⟨i - a.length - 1, by omega⟩
      rw [hk, List.getElem?_cons_succ] at h1
      exact h (List.mem_of_getElem? h1)
  unfold Txt.rpartition
  rw [key]
  show (Builtin.Str.strSub _ 0 _, _, _) = _
  have e1 : Builtin.Str.strSub (mk (a ++ c :: b)) 0 a.length = mk a := str_ext (by rw [StrLaws.strSub_toList, List.drop_zero, Nat.sub_zero]; exact List.take_left)
  have e2 : Builtin.Str.strSub (mk (a ++ c :: b)) (a.length + (mk [c]).length) (mk (a ++ c :: b)).length = mk b := str_ext (by
    rw [StrLaws.strSub_toList]
    show ((a ++ c :: b).drop (a.length + 1)).take _ = b
    have e : (a ++ c :: b).drop (a.length + 1) = b := by rw [← List.drop_drop, List.drop_left]; rfl
    rw [e]
    refine List.take_of_length_le ?_
    show b.length ≤ (a ++ c :: b).length - (a.length + 1)
    rw [List.length_append, List.length_cons]
    omega)
  rw [e1, e2]
theorem split_at {c : Nat} {ws : List TX} (hc : c < 256) (hne : ws ≠ []) (h : ∀ p ∈ ws, c ∉ p) : Txt.split (mk (TL.joinL [c] ws)) (mk [c]) = ws.map mk := by
  have := SX.split_S (a := TL.joinL [c] ws) (b := [c]) (by simp) (by simpa using hc)
  rw [SX.spl_join hne h] at this
  exact this
theorem join_mk (a : TX) (ys : List TX) : Txt.join (mk a) (ys.map mk) = mk (TL.joinL a ys) := SX.join_S a ys
theorem joinL_nil : ∀ ys : List TX, TL.joinL [] ys = ys.flatten
  | [] => rfl
  | [p] => by simp [TL.joinL]
  | p :: q :: r => by
    show p ++ ([] ++ TL.joinL [] (q :: r)) = _
    rw [joinL_nil (q :: r), List.nil_append]
    rfl
theorem joinL_cons {S p : TX} {ys : List TX} (h : ys ≠ []) : TL.joinL S (p :: ys) = p ++ (S ++ TL.joinL S ys) := by
  cases ys with
  | nil => exact absurd rfl h
  | cons q r => rfl
theorem joinL_len {c : Nat} : ∀ ys : List TX, (TL.joinL [c] ys).length ≤ (ys.map fun y => y.length + 1).sum
  | [] => Nat.zero_le _
  | [p] => by simp [TL.joinL]
  | p :: q :: r => by
    have := joinL_len (c := c) (q :: r)
    rw [joinL_cons (by simp)]
    simp only [List.length_append, List.length_singleton, List.map_cons, List.sum_cons] at this ⊢
    omega
/-- lines with their ends, and what stands behind -/
theorem lines_join : ∀ (ls : List TX) (t : TX), (ls.map (· ++ [10])).flatten ++ t = TL.joinL [10] (ls ++ [t])
  | [], t => rfl
  | l :: ls, t => by
    rw [List.cons_append, joinL_cons (by simp), ← lines_join ls t]
    simp
theorem joinL_free {c d : Nat} (hd : d ≠ c) : ∀ {ys : List TX}, (∀ y ∈ ys, d ∉ y) → d ∉ TL.joinL [c] ys
  | [], _ => by simp [TL.joinL]
  | [p], h => h p (by simp)
  | p :: q :: r, h => by
    rw [joinL_cons (by simp)]
    have ih := joinL_free hd (ys := q :: r) fun y hy => h y (List.mem_cons_of_mem _ hy)
    intro z
    rcases List.mem_append.mp z with z | z
    · exact h p (by simp) z
    · rcases List.mem_append.mp z with z | z
      · exact hd (List.mem_singleton.mp z)
      · exact ih z

section
variable {a b : Str} {k : KD} {ds : List D}
theorem r_part : mthC .partition (.str a) [.str b] k = (((b.length == 0) = false ∧ a.length ≤ sizeLine) ∧ k (.tuple [.str (Txt.partition a b).1, .str (Txt.partition a b).2.1, .str (Txt.partition a b).2.2])) := rfl
theorem r_rpart : mthC .rpartition (.str a) [.str b] k = (((b.length == 0) = false ∧ a.length ≤ sizeLine) ∧ k (.tuple [.str (Txt.rpartition a b).1, .str (Txt.rpartition a b).2.1, .str (Txt.rpartition a b).2.2])) := rfl
theorem r_split : mthC .split (.str a) [.str b] k = (((b.length == 0) = false ∧ a.length + 2 ≤ sizeLine) ∧ k (.list ((Txt.split a b).map PyData.str))) := rfl
theorem r_join : mthC .join (.str a) [.list ds] k = (∃ ys : List Str, ds = ys.map PyData.str ∧ (ys.map (·.length)).sum + ys.length * a.length ≤ 16777216 ∧ k (.str (Txt.join a ys))) := rfl
theorem atI_head {α : Type} {x : α} {l : List α} : atI (x :: l) 0 = some x := by
  rw [show (0 : Int) = ((0 : Nat) : Int) from rfl, atI_natL]
  rfl
end
/-! ### addresses -/
abbrev Ad := TX × TX
def sgn (c : Nat) : Bool := (decide (45 ≤ c) && decide (c ≤ 57)) || decide (c = 95) || (decide (97 ≤ c) && decide (c ≤ 122))
structure AdOk (a : Ad) : Prop where
  n0 : 1 ≤ a.1.length
  n1 : a.1.length ≤ 12
  nm : ∀ c ∈ a.1, 97 ≤ c ∧ c ≤ 122
  p0 : a.2.head? = some 47
  p1 : a.2.length ≤ 40
  pt : ∀ c ∈ a.2, sgn c = true
def adT (a : Ad) : TX := a.1 ++ a.2
theorem AdOk.path {a : Ad} (h : AdOk a) : ∃ r, a.2 = 47 :: r := by
  have := h.p0
  cases e : a.2 with
  | nil => rw [e] at this; cases this
  | cons c r => rw [e] at this; cases this; exact ⟨r, rfl⟩
theorem AdOk.sg {a : Ad} (h : AdOk a) {c : Nat} (hc : c ∈ adT a) : 45 ≤ c ∧ c ≤ 122 := by
  rcases List.mem_append.mp hc with z | z
  · have := h.nm c z; omega
  · have := h.pt c z
    unfold sgn at this
    simp only [Bool.or_eq_true, Bool.and_eq_true, decide_eq_true_eq] at this
    omega
theorem AdOk.len {a : Ad} (h : AdOk a) : (adT a).length ≤ 52 := by
  have := h.n1
  have := h.p1
  unfold adT
  rw [List.length_append]
  omega
theorem AdOk.free {a : Ad} (h : AdOk a) {c : Nat} (hc : c < 45) : c ∉ adT a := fun z => by
  have := h.sg z
  omega
theorem AdOk.part {a : Ad} (h : AdOk a) : Txt.partition (FR.mk (adT a)) (FR.mk [47]) = (FR.mk a.1, FR.mk [47], FR.mk a.2.tail) := by
  obtain ⟨r, e⟩ := h.path
  unfold adT
  rw [e]
  exact part_at fun z => by have := h.nm 47 z; omega

/-! ### events, rows -/
inductive Ev where
  | ask | lost | cut | gone
  | moved (a : Ad) | same (a : Ad)
  | page (m : Nat) (ls : List Ad)
def EvOk : Ev → Prop
  | .moved a => AdOk a
  | .same a => AdOk a
  | .page m ls => m ≤ 999999 ∧ ls.length ≤ 6 ∧ ∀ a ∈ ls, AdOk a
  | _ => True
def kindS : Ev → Str
  | .ask => "ask" | .lost => "lost" | .cut => "cut" | .gone => "gone" | .moved _ => "moved" | .same _ => "same" | .page _ _ => "page"
def kindL : Ev → TX
  | .ask => [97, 115, 107] | .lost => [108, 111, 115, 116] | .cut => [99, 117, 116] | .gone => [103, 111, 110, 101] | .moved _ => [109, 111, 118, 101, 100] | .same _ => [115, 97, 109, 101] | .page _ _ => [112, 97, 103, 101]
theorem kind_mk (e : Ev) : kindS e = mk (kindL e) := by cases e <;> kernel_rfl
def adD (a : Ad) : D := .tuple [.str (mk a.1), .str (mk a.2)]
def evR : Ev → List D
  | .moved a => [adD a]
  | .same a => [adD a]
  | .page m ls => [.int (m : Nat), .tuple (ls.map adD)]
  | _ => []
def evD (e : Ev) : D := .tuple (.str (kindS e) :: evR e)
def isPage : Ev → Bool
  | .page _ _ => true | _ => false
def isMS : Ev → Bool
  | .moved _ => true | .same _ => true | _ => false
def isALC : Ev → Bool
  | .ask => true | .lost => true | .cut => true | _ => false
def isGone : Ev → Bool
  | .gone => true | _ => false
theorem k_page (e : Ev) : decide (kindS e = ("page" : Str)) = isPage e := by cases e <;> kernel_rfl
theorem k_gone (e : Ev) : decide (kindS e = ("gone" : Str)) = isGone e := by cases e <;> kernel_rfl
theorem k_ms (e : Ev) : ([PyData.str ("moved" : Str), .str ("same" : Str)].any fun z => PyData.eqv z (.str (kindS e))) = isMS e := by
  simp only [List.any_cons, List.any_nil, eqv_str]
  cases e <;> kernel_rfl
theorem k_alc (e : Ev) : ([PyData.str ("ask" : Str), .str ("lost" : Str), .str ("cut" : Str)].any fun z => PyData.eqv z (.str (kindS e))) = isALC e := by
  simp only [List.any_cons, List.any_nil, eqv_str]
  cases e <;> kernel_rfl
theorem ok_ms {s : Str} : inOk (.str s) [PyData.str ("moved" : Str), .str ("same" : Str)] := .inl ⟨rfl, rfl⟩
theorem ok_alc {s : Str} : inOk (.str s) [PyData.str ("ask" : Str), .str ("lost" : Str), .str ("cut" : Str)] := .inl ⟨rfl, rfl⟩
def behL : Ev → List TX
  | .moved a => [adT a]
  | .same a => [adT a]
  | .page m ls => TL.numL m :: ls.map adT
  | _ => []
structure Rw where
  w : Nat
  a : Ad
  e : Ev
structure RwOk (r : Rw) : Prop where
  w : r.w ≤ 999999999999
  a : AdOk r.a
  e : EvOk r.e
def rwD (r : Rw) : D := .tuple [.int (r.w : Nat), adD r.a, evD r.e]
def wordsL (r : Rw) : List TX := TL.numL r.w :: kindL r.e :: adT r.a :: behL r.e
def lineL (r : Rw) : TX := TL.joinL [32] (wordsL r)
def sealL (l : TX) : Int := (((List.range l.length).map fun (i : Nat) => ((i : Int) + 1) * ((l.getD i 0 : Nat) : Int)).sum) % 999983
def sealN (l : TX) : Nat := (sealL l).toNat
theorem seal_nat (l : TX) : sealL l = (sealN l : Nat) ∧ sealN l < 999983 := by
  unfold sealN
  have h1 : 0 ≤ sealL l := Int.emod_nonneg _ (by decide)
  have h2 : sealL l < 999983 := Int.emod_lt_of_pos _ (by decide)
  omega
def headL (k : Nat) (r : Rw) : TX := TL.numL k ++ 32 :: lineL r
def jlL (k : Nat) (r : Rw) : TX := headL k r ++ 32 :: TL.numL (sealN (headL k r))
theorem kind_free (e : Ev) {c : Nat} (hc : c < 97) : c ∉ kindL e := by cases e <;> simp [kindL] <;> omega
theorem beh_mem {e : Ev} (he : EvOk e) {p : TX} (hp : p ∈ behL e) : (∃ n, p = TL.numL n) ∨ ∃ a, AdOk a ∧ p = adT a := by
  cases e with
  | moved a => rw [List.mem_singleton.mp hp]; exact .inr ⟨a, he, rfl⟩
  | same a => rw [List.mem_singleton.mp hp]; exact .inr ⟨a, he, rfl⟩
  | page m ls =>
    rcases List.mem_cons.mp hp with z | z
    · exact .inl ⟨m, z⟩
    · obtain ⟨a, ha, rfl⟩ := List.mem_map.mp z
      exact .inr ⟨a, he.2.2 a ha, rfl⟩
  | _ => cases hp
theorem words_free {r : Rw} (h : RwOk r) {c : Nat} (hc : c < 45) {p : TX} (hp : p ∈ wordsL r) : c ∉ p := by
  have num : ∀ n, c ∉ TL.numL n := fun n => TL.numL_free (by omega)
  rcases List.mem_cons.mp hp with z | z
  · rw [z]; exact num _
  rcases List.mem_cons.mp z with z | z
  · rw [z]; exact kind_free _ (by omega)
  rcases List.mem_cons.mp z with z | z
  · rw [z]; exact h.a.free hc
  rcases beh_mem h.e z with ⟨n, rfl⟩ | ⟨a, ha, rfl⟩
  · exact num n
  · exact ha.free hc
theorem line_split {r : Rw} (h : RwOk r) : Txt.split (mk (lineL r)) (mk [32]) = (wordsL r).map mk :=
  split_at (by decide) (by simp [wordsL]) fun p hp => words_free h (by decide) hp
theorem line_free {r : Rw} (h : RwOk r) : 10 ∉ lineL r := joinL_free (by decide) fun p hp => words_free h (by decide) hp
theorem head_free {k : Nat} {r : Rw} (h : RwOk r) : 10 ∉ headL k r := fun z => by
  rcases List.mem_append.mp z with z | z
  · exact TL.numL_free (by omega) z
  · rcases List.mem_cons.mp z with z | z
    · omega
    · exact line_free h z
theorem jl_free {k : Nat} {r : Rw} (h : RwOk r) : 10 ∉ jlL k r := fun z => by
  rcases List.mem_append.mp z with z | z
  · exact head_free h z
  · rcases List.mem_cons.mp z with z | z
    · omega
    · exact TL.numL_free (by omega) z
theorem jl_rpart (k : Nat) (r : Rw) : Txt.rpartition (mk (jlL k r)) (mk [32]) = (mk (headL k r), mk [32], mk (TL.numL (sealN (headL k r)))) := rpart_at (TL.numL_free (by omega))
theorem head_part (k : Nat) (r : Rw) : Txt.partition (mk (headL k r)) (mk [32]) = (mk (TL.numL k), mk [32], mk (lineL r)) := part_at (TL.numL_free (by omega))
theorem num_len {n : Nat} (h : n ≤ 999999999999) : (TL.numL n).length ≤ 12 := TL.numL_len (k := 12) (by decide) (by omega)
theorem word_len {r : Rw} (h : RwOk r) {p : TX} (hp : p ∈ wordsL r) : p.length ≤ 52 := by
  rcases List.mem_cons.mp hp with z | z
  · rw [z]; have := num_len h.w; omega
  rcases List.mem_cons.mp z with z | z
  · rw [z]; cases r.e <;> simp [kindL]
  rcases List.mem_cons.mp z with z | z
  · rw [z]; exact h.a.len
  cases e : r.e with
  | moved a => rw [e] at z; rw [List.mem_singleton.mp z]; have := h.e; rw [e] at this; exact AdOk.len this
  | same a => rw [e] at z; rw [List.mem_singleton.mp z]; have := h.e; rw [e] at this; exact AdOk.len this
  | page m ls =>
    have he := h.e
    rw [e] at z he
    rcases List.mem_cons.mp z with z | z
    · rw [z]; have := num_len (n := m) (by have := he.1; omega); omega
    · obtain ⟨a, ha, rfl⟩ := List.mem_map.mp z
      exact (he.2.2 a ha).len
  | _ => rw [e] at z; cases z
theorem beh_len {e : Ev} (h : EvOk e) : (behL e).length ≤ 7 := by
  cases e with
  | page m ls => have := h.2.1; simp [behL]; omega
  | _ => simp [behL]
theorem sum_le {α : Type} {f : α → Nat} {b : Nat} : ∀ {l : List α}, (∀ x ∈ l, f x ≤ b) → (l.map f).sum ≤ l.length * b
  | [], _ => Nat.zero_le _
  | x :: l, h => by
    have := sum_le (l := l) fun y hy => h y (List.mem_cons_of_mem _ hy)
    have h1 := h x List.mem_cons_self
    rw [List.map_cons, List.sum_cons, List.length_cons, Nat.add_mul]
    omega
theorem line_len {r : Rw} (h : RwOk r) : (lineL r).length ≤ 530 := by
  have h1 := joinL_len (c := 32) (wordsL r)
  have h2 := sum_le (f := fun y : TX => y.length + 1) (b := 53) (l := wordsL r) fun p hp => by have := word_len h hp; omega
  have h3 : (wordsL r).length ≤ 10 := by have := beh_len h.e; simp [wordsL]; omega
  show (TL.joinL [32] (wordsL r)).length ≤ _
  have : (wordsL r).length * 53 ≤ 10 * 53 := Nat.mul_le_mul_right _ h3
  omega
theorem head_len {k : Nat} {r : Rw} (h : RwOk r) (hk : k ≤ 999999999999) : (headL k r).length ≤ 543 := by
  have := line_len h
  have := num_len hk
  unfold headL
  rw [List.length_append, List.length_cons]
  omega
theorem jl_len {k : Nat} {r : Rw} (h : RwOk r) (hk : k ≤ 999999999999) : (jlL k r).length ≤ 556 := by
  have := head_len h hk
  have := num_len (n := sealN (headL k r)) (by have := (seal_nat (headL k r)).2; omega)
  unfold jlL
  rw [List.length_append, List.length_cons]
  omega
/-- every sign of a line is a small one -/
theorem num_sg {n c : Nat} (h : c ∈ TL.numL n) : 32 ≤ c ∧ c ≤ 122 := by
  have : ¬ (c < 48 ∨ 57 < c) := fun z => TL.numL_free z h
  omega
theorem joinL_all {P : Nat → Prop} {c : Nat} (hc : P c) : ∀ {ys : List TX}, (∀ y ∈ ys, ∀ x ∈ y, P x) → ∀ x ∈ TL.joinL [c] ys, P x
  | [], _ => fun x h => by simp [TL.joinL] at h
  | [p], h => h p (by simp)
  | p :: q :: r, h => by
    rw [joinL_cons (by simp)]
    intro x hx
    rcases List.mem_append.mp hx with z | z
    · exact h p (by simp) x z
    · rcases List.mem_append.mp z with z | z
      · rw [List.mem_singleton.mp z]; exact hc
      · exact joinL_all hc (fun y hy => h y (List.mem_cons_of_mem _ hy)) x z
theorem kind_sg {e : Ev} {c : Nat} (h : c ∈ kindL e) : 32 ≤ c ∧ c ≤ 122 := by
  have : ∀ c ∈ kindL e, 32 ≤ c ∧ c ≤ 122 := by cases e <;> simp [kindL]
  exact this c h
theorem line_sg {r : Rw} (h : RwOk r) : ∀ c ∈ lineL r, 32 ≤ c ∧ c ≤ 122 := by
  refine joinL_all (by decide) fun p hp x hx => ?_
  rcases List.mem_cons.mp hp with z | z
  · rw [z] at hx; exact num_sg hx
  rcases List.mem_cons.mp z with z | z
  · rw [z] at hx; exact kind_sg hx
  rcases List.mem_cons.mp z with z | z
  · rw [z] at hx; have := h.a.sg hx; omega
  rcases beh_mem h.e z with ⟨n, rfl⟩ | ⟨a, ha, rfl⟩
  · exact num_sg hx
  · have := ha.sg hx; omega
theorem head_sg {k : Nat} {r : Rw} (h : RwOk r) : ∀ c ∈ headL k r, 32 ≤ c ∧ c ≤ 122 := fun c z => by
  rcases List.mem_append.mp z with z | z
  · exact num_sg z
  · rcases List.mem_cons.mp z with z | z
    · omega
    · exact line_sg h c z
theorem jl_sg {k : Nat} {r : Rw} (h : RwOk r) : ∀ c ∈ jlL k r, 32 ≤ c ∧ c ≤ 122 := fun c z => by
  rcases List.mem_append.mp z with z | z
  · exact head_sg h c z
  · rcases List.mem_cons.mp z with z | z
    · omega
    · exact num_sg z

/-! ### journals -/
/-- the lines of rows, from the k-th on -/
def jlsL : Nat → List Rw → List TX
  | _, [] => []
  | k, r :: rs => jlL k r :: jlsL (k + 1) rs
def jourL (rs : List Rw) : TX := ((jlsL 0 rs).map (· ++ [10])).flatten
theorem jls_len : ∀ (k : Nat) (rs : List Rw), (jlsL k rs).length = rs.length
  | _, [] => rfl
  | k, _ :: rs => by rw [jlsL, List.length_cons, jls_len (k + 1) rs]; rfl
theorem jls_at : ∀ (rs : List Rw) (k i : Nat), (jlsL k rs)[i]? = (rs[i]?).map (jlL (k + i))
  | [], _, _ => by simp [jlsL]
  | r :: rs, k, 0 => by simp [jlsL]
  | r :: rs, k, i + 1 => by
    rw [jlsL, List.getElem?_cons_succ, List.getElem?_cons_succ, jls_at rs (k + 1) i]
    have : k + 1 + i = k + (i + 1) := by omega
    rw [this]
theorem jls_free {rs : List Rw} (h : ∀ r ∈ rs, RwOk r) : ∀ {k : Nat} {l : TX}, l ∈ jlsL k rs → 10 ∉ l := by
  induction rs with
  | nil => intro k l hl; cases hl
  | cons r rs ih =>
    intro k l hl
    rcases List.mem_cons.mp hl with z | z
    · rw [z]; exact jl_free (h r List.mem_cons_self)
    · exact ih (fun r hr => h r (List.mem_cons_of_mem _ hr)) z
theorem jour_split {rs : List Rw} (h : ∀ r ∈ rs, RwOk r) {t : TX} (ht : 10 ∉ t) : Txt.split (mk (jourL rs ++ t)) (mk [10]) = (jlsL 0 rs ++ [t]).map mk := by
  unfold jourL
  rw [lines_join]
  refine split_at (by decide) (by simp) fun p hp => ?_
  rcases List.mem_append.mp hp with z | z
  · exact jls_free h z
  · rw [List.mem_singleton.mp z]; exact ht
theorem jour_len {rs : List Rw} (h : ∀ r ∈ rs, RwOk r) (hl : rs.length ≤ 1000) : (jourL rs).length ≤ rs.length * 557 := by
  have : ∀ (rs : List Rw) (k : Nat), (∀ r ∈ rs, RwOk r) → k + rs.length ≤ 2000 → (((jlsL k rs).map (· ++ [10])).flatten).length ≤ rs.length * 557 := by
    intro rs
    induction rs with
    | nil => intro k _ _; exact Nat.zero_le _
    | cons r rs ih =>
      intro k h hk
      rw [List.length_cons] at hk
      have := ih (k + 1) (fun r hr => h r (List.mem_cons_of_mem _ hr)) (by omega)
      have h2 := jl_len (h r List.mem_cons_self) (k := k) (by omega)
      rw [jlsL, List.map_cons, List.flatten_cons, List.length_append, List.length_append]
      simp only [List.length_cons, List.length_nil]
      omega
  exact this rs 0 h (by omega)
theorem jour_sg {rs : List Rw} (h : ∀ r ∈ rs, RwOk r) : ∀ c ∈ jourL rs, c = 10 ∨ (32 ≤ c ∧ c ≤ 122) := by
  have : ∀ (rs : List Rw) (k : Nat), (∀ r ∈ rs, RwOk r) → ∀ c ∈ ((jlsL k rs).map (· ++ [10])).flatten, c = 10 ∨ (32 ≤ c ∧ c ≤ 122) := by
    intro rs
    induction rs with
    | nil => intro k _ c hc; cases hc
    | cons r rs ih =>
      intro k h c hc
      rw [jlsL, List.map_cons, List.flatten_cons] at hc
      rcases List.mem_append.mp hc with z | z
      · rcases List.mem_append.mp z with z | z
        · exact .inr (jl_sg (h r List.mem_cons_self) c z)
        · exact .inl (List.mem_singleton.mp z)
      · exact ih (k + 1) (fun r hr => h r (List.mem_cons_of_mem _ hr)) c z
  exact this rs 0 h
end FR

/-! FrZa: deeds of logs, cut at any place: plain facts -/
namespace FR
open PySem L2 PyProof.Rows

inductive Dd where
  | w (l : TX)
  | a (t : Nat) (p : Ad)
def ddD : Dd → D
  | .w l => .tuple [.str ("write" : Str), .str (mk l)]
  | .a t p => .tuple [.str ("ask" : Str), .int (t : Nat), adD p]
def DdOk : Dd → Prop
  | .w l => l.length ≤ 1000 ∧ ∀ c ∈ l, c = 10 ∨ (32 ≤ c ∧ c ≤ 126)
  | .a t p => t ≤ 999999999999 ∧ AdOk p
def isAsk : Ev → Bool
  | .ask => true | _ => false
/-- what is done for one row -/
def dd1 (k : Nat) (r : Rw) : List Dd := .w (jlL k r ++ [10]) :: if isAsk r.e = true then [.a r.w r.a] else []
def ddsL : Nat → List Rw → List Dd
  | _, [] => []
  | k, r :: rs => dd1 k r ++ ddsL (k + 1) rs
def wrL (ds : List Dd) : List TX := ds.filterMap fun | .w l => some l | _ => none
def asL (ds : List Dd) : List (Nat × Ad) := ds.filterMap fun | .a t p => some (t, p) | _ => none
def askL (rs : List Rw) : List (Nat × Ad) := (rs.filter fun r => isAsk r.e).map fun r => (r.w, r.a)
theorem ddsL_snoc : ∀ (rs : List Rw) (k : Nat) (r : Rw), ddsL k (rs ++ [r]) = ddsL k rs ++ dd1 (k + rs.length) r
  | [], k, r => by simp [ddsL]
  | x :: rs, k, r => by
    have e : k + 1 + rs.length = k + (x :: rs).length := by rw [List.length_cons]; omega
    rw [List.cons_append, ddsL, ddsL, ddsL_snoc rs (k + 1) r, List.append_assoc, e]
theorem ddsL_ok : ∀ (rs : List Rw) (k : Nat), k + rs.length ≤ 1000 → (∀ r ∈ rs, RwOk r) → ∀ d ∈ ddsL k rs, DdOk d
  | [], _, _, _, d, hd => nomatch hd
  | r :: rs, k, hk, h, d, hd => by
    rw [List.length_cons] at hk
    have hr := h r List.mem_cons_self
    rcases List.mem_append.mp hd with z | z
    · rcases List.mem_cons.mp z with z | z
      · rw [z]
        have h1 := jl_len hr (k := k) (by omega)
        refine ⟨by rw [List.length_append, List.length_singleton]; omega, fun c hc => ?_⟩
        rcases List.mem_append.mp hc with q | q
        · have := jl_sg hr c q; omega
        · exact .inl (List.mem_singleton.mp q)
      · split at z
        · rw [List.mem_singleton.mp z]; exact ⟨hr.w, hr.a⟩
        · cases z
    · exact ddsL_ok rs (k + 1) (by omega) (fun r hr => h r (List.mem_cons_of_mem _ hr)) d z
theorem ddsL_len : ∀ (rs : List Rw) (k : Nat), (ddsL k rs).length ≤ 2 * rs.length
  | [], _ => Nat.le_refl _
  | r :: rs, k => by
    have := ddsL_len rs (k + 1)
    rw [ddsL, List.length_append, List.length_cons, dd1, List.length_cons]
    split
    · simp only [List.length_singleton]; omega
    · simp only [List.length_nil]; omega
/-- what stands written at a cut is the lines of the first rows; of their asks at most the last is lacking -/
theorem cut_is : ∀ (rs : List Rw) (k n : Nat), ∃ j, j ≤ rs.length ∧ wrL ((ddsL k rs).take n) = ((jlsL k rs).take j).map (· ++ [10]) ∧
    (asL ((ddsL k rs).take n) = askL (rs.take j) ∨ ∃ p, askL (rs.take j) = asL ((ddsL k rs).take n) ++ [p])
  | [], k, n => ⟨0, Nat.le_refl _, by simp [ddsL, wrL, jlsL], .inl (by simp [ddsL, asL, askL])⟩
  | r :: rs, k, 0 => ⟨0, Nat.zero_le _, by simp [wrL], .inl (by simp [asL, askL])⟩
  | r :: rs, k, 1 => by
    refine ⟨1, by simp, by simp [ddsL, dd1, wrL, jlsL], ?_⟩
    cases h : isAsk r.e with
    | true => exact .inr ⟨(r.w, r.a), by simp [ddsL, dd1, asL, askL, h]⟩
    | false => exact .inl (by simp [ddsL, dd1, asL, askL, h])
  | r :: rs, k, n + 2 => by
    cases h : isAsk r.e with
    | true =>
      obtain ⟨j, hj, h1, h2⟩ := cut_is rs (k + 1) n
      have e : (ddsL k (r :: rs)).take (n + 2) = .w (jlL k r ++ [10]) :: .a r.w r.a :: (ddsL (k + 1) rs).take n := by simp [ddsL, dd1, h]
      refine ⟨j + 1, by rw [List.length_cons]; omega, ?_, ?_⟩
      · rw [e]
        show (jlL k r ++ [10]) :: wrL ((ddsL (k + 1) rs).take n) = _
        rw [h1]
        rfl
      · rw [e]
        have ea : askL ((r :: rs).take (j + 1)) = (r.w, r.a) :: askL (rs.take j) := by simp [askL, h]
        rw [ea]
        show (r.w, r.a) :: asL ((ddsL (k + 1) rs).take n) = _ ∨ ∃ p, _ = (r.w, r.a) :: asL ((ddsL (k + 1) rs).take n) ++ [p]
        rcases h2 with h2 | ⟨p, h2⟩
        · exact .inl (by rw [h2])
        · exact .inr ⟨p, by rw [h2]; rfl⟩
    | false =>
      obtain ⟨j, hj, h1, h2⟩ := cut_is rs (k + 1) (n + 1)
      have e : (ddsL k (r :: rs)).take (n + 2) = .w (jlL k r ++ [10]) :: (ddsL (k + 1) rs).take (n + 1) := by simp [ddsL, dd1, h]
      refine ⟨j + 1, by rw [List.length_cons]; omega, ?_, ?_⟩
      · rw [e]
        show (jlL k r ++ [10]) :: wrL ((ddsL (k + 1) rs).take (n + 1)) = _
        rw [h1]
        rfl
      · rw [e]
        have ea : askL ((r :: rs).take (j + 1)) = askL (rs.take j) := by simp [askL, h]
        rw [ea]
        exact h2
theorem jls_take : ∀ (rs : List Rw) (k j : Nat), (jlsL k rs).take j = jlsL k (rs.take j)
  | [], _, _ => by simp [jlsL]
  | r :: rs, k, 0 => by simp [jlsL]
  | r :: rs, k, j + 1 => by rw [jlsL, List.take_succ_cons, jls_take rs (k + 1) j, List.take_succ_cons, jlsL]
/-- the texts written, one behind the other -/
theorem cut_text (rs : List Rw) (n : Nat) : ∃ j, j ≤ rs.length ∧ (wrL ((ddsL 0 rs).take n)).flatten = jourL (rs.take j) ∧
    (asL ((ddsL 0 rs).take n) = askL (rs.take j) ∨ ∃ p, askL (rs.take j) = asL ((ddsL 0 rs).take n) ++ [p]) := by
  obtain ⟨j, hj, h1, h2⟩ := cut_is rs 0 n
  exact ⟨j, hj, by rw [h1, jls_take]; rfl, h2⟩
end FR

namespace K47
open PySem L2 PyProof.Rows FR
def top (i : Nat) : Stmt := PySem.Challenge.pw_freshrounds_k47_whole_deeds_and_cuts_at.main.body.getD i (.Pass ⟨0, 0, 0, 0⟩)
def cb_is_name : CB := (.cons (.ifs (.or (.not (.v (.isi (.var 0) ["str"]))) (.not (.v (.chn .le .le (.lit (.int 1)) (.blt .len (.cons (.var 0) .nil)) (.glb "MOST_LETTERS"))))) (.cons (.ret (.lit (.bl false))) .nil) .nil) (.cons (.ret (.blt .all (.cons (.lc [1] (.v 1) (.e (.var 0)) .no (.cmp .mem (.var 1) (.glb "LETTERS"))) .nil))) .nil))
def N_is_name : List Str := ["value", "sign"]
abbrev C_is_name : Cc := ⟨N_is_name, defScope (top 10), N_is_name, ["all", "isinstance", "len", "str"], [], ["LETTERS", "MOST_LETTERS"]⟩
def cb_is_path : CB := (.cons (.ifs (.or (.not (.v (.isi (.var 0) ["str"]))) (.v (.cmp .ne (.slc (.var 0) .no (.some (.lit (.int 1)))) (.lit (.str "/"))))) (.cons (.ret (.lit (.bl false))) .nil) .nil) (.cons (.ret (.blt .all (.cons (.lc [1] (.v 1) (.e (.var 0)) .no (.cmp .mem (.var 1) (.glb "SIGNS"))) .nil))) .nil))
def N_is_path : List Str := ["value", "sign"]
abbrev C_is_path : Cc := ⟨N_is_path, defScope (top 11), N_is_path, ["all", "isinstance", "str"], [], ["SIGNS"]⟩
def cb_is_whole : CB := (.cons (.ret (.and (.isi (.var 0) ["int"]) (.not (.isi (.var 0) ["bool"])))) .nil)
def N_is_whole : List Str := ["value"]
abbrev C_is_whole : Cc := ⟨N_is_whole, defScope (top 13), N_is_whole, ["bool", "int", "isinstance"], [], []⟩
def cb_is_tuple_up_to : CB := (.cons (.ret (.and (.isi (.var 0) ["tuple"]) (.chn .le .le (.var 1) (.blt .len (.cons (.var 0) .nil)) (.var 2)))) .nil)
def N_is_tuple_up_to : List Str := ["value", "low", "high"]
abbrev C_is_tuple_up_to : Cc := ⟨N_is_tuple_up_to, defScope (top 15), N_is_tuple_up_to, ["isinstance", "len", "tuple"], [], []⟩
def cb_text_of : CB := (.cons (.ret (.bin .add (.idx (.var 0) (.lit (.int 0))) (.idx (.var 0) (.lit (.int 1))))) .nil)
def N_text_of : List Str := ["address"]
abbrev C_text_of : Cc := ⟨N_text_of, defScope (top 20), N_text_of, [], [], []⟩
def cb_is_numeral : CB := (.cons (.ifs (.or (.not (.v (.chn .le .le (.lit (.int 1)) (.blt .len (.cons (.var 0) .nil)) (.glb "MOST_DIGITS")))) (.not (.v (.blt .all (.cons (.lc [1] (.v 1) (.e (.var 0)) .no (.cmp .mem (.var 1) (.glb "DIGITS"))) .nil))))) (.cons (.ret (.lit (.bl false))) .nil) .nil) (.cons (.ret (.or (.cmp .eq (.blt .len (.cons (.var 0) .nil)) (.lit (.int 1))) (.cmp .ne (.idx (.var 0) (.lit (.int 0))) (.lit (.str "0"))))) .nil))
def N_is_numeral : List Str := ["word", "sign"]
abbrev C_is_numeral : Cc := ⟨N_is_numeral, defScope (top 35), N_is_numeral, ["all", "len"], [], ["DIGITS", "MOST_DIGITS"]⟩
def cb_seal_in : CB := (.cons (.ret (.bin .mod (.blt .sum (.cons (.lc [1, 2] (.t [1, 2]) (.enum (.var 0)) .no (.bin .mul (.bin .add (.var 1) (.lit (.int 1))) (.blt .ord (.cons (.var 2) .nil)))) .nil)) (.glb "SEALS"))) .nil)
def N_seal_in : List Str := ["text", "index", "sign"]
abbrev C_seal_in : Cc := ⟨N_seal_in, defScope (top 47), N_seal_in, ["enumerate", "ord", "sum"], [], ["SEALS"]⟩
def cb__law_well : CB := (.cons (.asg 2 (.bin .add (.lit (.int 70001)) (.bin .mul (.lit (.int 613)) (.var 1)))) (.cons (.for_ (.v 3) (.e (.slc (.var 0) .no (.some (.lit (.int 10))))) (.cons (.asg 2 (.bin .mod (.blt .int (.cons (.bin .add (.bin .add (.bin .mul (.var 2) (.lit (.int 30011))) (.bin .mul (.bin .mod (.blt .int (.cons (.var 3) .nil)) (.lit (.int 1000000007))) (.lit (.int 50021)))) (.lit (.int 11))) .nil)) (.lit (.int 2147483629)))) .nil)) (.cons (.asg 4 (.ite (.v (.cmp .lt (.var 1) (.blt .len (.cons (.var 0) .nil)))) (.blt .abs (.cons (.blt .int (.cons (.idx (.var 0) (.var 1)) .nil)) .nil)) (.lit (.int 0)))) (.cons (.retF (.lst (.cons (.ite (.v (.cmp .ge (.var 4) (.bin .pow (.lit (.int 10)) (.lit (.int 18))))) (.var 4) (.lit (.int 0))) (.cons (.bin .mod (.blt .int (.cons (.bin .add (.bin .add (.bin .mul (.var 2) (.lit (.int 69069))) (.bin .mul (.bin .mod (.blt .int (.cons (.var 4) .nil)) (.lit (.int 1000000007))) (.lit (.int 40009)))) (.var 1)) .nil)) (.lit (.int 2147483587))) (.cons (.lit (.int 0)) .nil))))) .nil))))
def N__law_well : List Str := ["script", "turn", "seed", "cell", "own"]
abbrev C__law_well : Cc := ⟨N__law_well, defScope (top 55), N__law_well, ["abs", "int", "len"], [], []⟩
def N__law_take : List Str := ["well", "size", "figure"]
abbrev C__law_take : Cc := ⟨N__law_take, defScope (top 56), N__law_take, ["divmod", "int"], [], []⟩
def cb__law_line : CB := (.cons (.unp [1, 2, 3] (.var 0)) (.cons (.own 4 (.lst (.cons (.blt .str (.cons (.var 1) .nil)) (.cons (.idx (.var 3) (.lit (.int 0))) (.cons (.bin .add (.idx (.var 2) (.lit (.int 0))) (.idx (.var 2) (.lit (.int 1)))) .nil))))) (.cons (.ifs (.v (.cmp .eq (.idx (.var 3) (.lit (.int 0))) (.lit (.str "page")))) (.cons (.own 4 (.bin .add (.bin .add (.var 4) (.lst (.cons (.blt .str (.cons (.idx (.var 3) (.lit (.int 1))) .nil)) .nil))) (.lc [5] (.v 5) (.e (.idx (.var 3) (.lit (.int 2)))) .no (.bin .add (.idx (.var 5) (.lit (.int 0))) (.idx (.var 5) (.lit (.int 1))))))) .nil) (.cons (.ifs (.v (.cmp .eq (.blt .len (.cons (.var 3) .nil)) (.lit (.int 2)))) (.cons (.app 4 (.bin .add (.idx (.idx (.var 3) (.lit (.int 1))) (.lit (.int 0))) (.idx (.idx (.var 3) (.lit (.int 1))) (.lit (.int 1))))) .nil) .nil) .nil)) (.cons (.ret (.mth .join (.lit (.str " ")) (.cons (.var 4) .nil))) .nil))))
def N__law_line : List Str := ["line", "when", "spot", "fact", "words", "goal"]
abbrev C__law_line : Cc := ⟨N__law_line, defScope (top 62), N__law_line, ["len", "str"], [], []⟩
def cb__law_seal : CB := (.cons (.asg 1 (.lit (.int 0))) (.cons (.for_ (.v 2) (.rng1 (.blt .len (.cons (.var 0) .nil))) (.cons (.asg 1 (.bin .add (.var 1) (.bin .mul (.bin .add (.var 2) (.lit (.int 1))) (.blt .ord (.cons (.idx (.var 0) (.var 2)) .nil))))) .nil)) (.cons (.ret (.bin .mod (.blt .int (.cons (.var 1) .nil)) (.lit (.int 999983)))) .nil)))
def N__law_seal : List Str := ["said", "total", "k"]
abbrev C__law_seal : Cc := ⟨N__law_seal, defScope (top 63), N__law_seal, ["int", "len", "ord", "range"], [], []⟩
def cb__law_left : CB := (.cons (.asg 3 (.mth .join (.lit (.str "")) (.cons (.lc [4] (.v 4) (.e (.slc (.var 0) .no (.some (.var 1)))) (.some (.v (.cmp .eq (.idx (.var 4) (.lit (.int 0))) (.lit (.str "write"))))) (.idx (.var 4) (.lit (.int 1)))) .nil))) (.cons (.ifs (.v (.cmp .gt (.var 2) (.lit (.int 0)))) (.cons (.asg 3 (.bin .add (.var 3) (.slc (.idx (.idx (.var 0) (.var 1)) (.lit (.int 1))) .no (.some (.var 2))))) .nil) .nil) (.cons (.ret (.tup (.cons (.var 3) (.cons (.blt .tuple (.cons (.lc [4] (.v 4) (.e (.slc (.var 0) .no (.some (.var 1)))) (.some (.v (.cmp .eq (.idx (.var 4) (.lit (.int 0))) (.lit (.str "ask"))))) (.tup (.cons (.idx (.var 4) (.lit (.int 1))) (.cons (.idx (.var 4) (.lit (.int 2))) .nil)))) .nil)) .nil)))) .nil)))
def N__law_left : List Str := ["acts", "size", "torn_here", "said", "act"]
abbrev C__law_left : Cc := ⟨N__law_left, defScope (top 67), N__law_left, ["tuple"], [], []⟩
def cb_is_between : CB := (.cons (.ret (.and (.call "is_whole" (.cons (.var 0) .nil) [] .nil) (.chn .le .le (.var 1) (.var 0) (.var 2)))) .nil)
def N_is_between : List Str := ["value", "low", "high"]
abbrev C_is_between : Cc := ⟨N_is_between, defScope (top 14), N_is_between, [], ["is_whole"], []⟩
def cb_is_short_path : CB := (.cons (.ret (.and (.call "is_path" (.cons (.var 0) .nil) [] .nil) (.cmp .le (.blt .len (.cons (.var 0) .nil)) (.glb "MOST_SIGNS")))) .nil)
def N_is_short_path : List Str := ["value"]
abbrev C_is_short_path : Cc := ⟨N_is_short_path, defScope (top 18), N_is_short_path, ["len"], ["is_path"], ["MOST_SIGNS"]⟩
def cb_words_behind : CB := (.cons (.ifs (.v (.cmp .eq (.idx (.var 0) (.lit (.int 0))) (.lit (.str "page")))) (.cons (.ret (.bin .add (.lst (.cons (.blt .str (.cons (.idx (.var 0) (.lit (.int 1))) .nil)) .nil)) (.lc [1] (.v 1) (.e (.idx (.var 0) (.lit (.int 2)))) .no (.call "text_of" (.cons (.var 1) .nil) [] .nil)))) .nil) .nil) (.cons (.ret (.ite (.v (.cmp .mem (.idx (.var 0) (.lit (.int 0))) (.tup (.cons (.lit (.str "moved")) (.cons (.lit (.str "same")) .nil))))) (.lst (.cons (.call "text_of" (.cons (.idx (.var 0) (.lit (.int 1))) .nil) [] .nil) .nil)) (.lst .nil))) .nil))
def N_words_behind : List Str := ["event", "address"]
abbrev C_words_behind : Cc := ⟨N_words_behind, defScope (top 38), N_words_behind, ["str"], ["text_of"], []⟩
def cb__law_one : CB := (.cons (.ret (.idx (.var 1) (.call "_law_take" (.cons (.var 0) (.cons (.blt .len (.cons (.var 1) .nil)) .nil)) [] .nil))) .nil)
def N__law_one : List Str := ["well", "some"]
abbrev C__law_one : Cc := ⟨N__law_one, defScope (top 57), N__law_one, ["len"], ["_law_take"], []⟩
def cb__law_sealed : CB := (.cons (.asg 2 (.bin .add (.bin .add (.blt .str (.cons (.var 0) .nil)) (.lit (.str " "))) (.call "_law_line" (.cons (.var 1) .nil) [] .nil))) (.cons (.ret (.bin .add (.bin .add (.bin .add (.var 2) (.lit (.str " "))) (.blt .str (.cons (.call "_law_seal" (.cons (.var 2) .nil) [] .nil) .nil))) (.lit (.str "\n")))) .nil))
def N__law_sealed : List Str := ["k", "line", "said"]
abbrev C__law_sealed : Cc := ⟨N__law_sealed, defScope (top 64), N__law_sealed, ["str"], ["_law_line", "_law_seal"], []⟩
def cb_is_address : CB := (.cons (.ret (.and (.call "is_tuple_up_to" (.cons (.var 0) (.cons (.lit (.int 2)) (.cons (.lit (.int 2)) .nil))) [] .nil) (.and (.call "is_name" (.cons (.idx (.var 0) (.lit (.int 0))) .nil) [] .nil) (.call "is_short_path" (.cons (.idx (.var 0) (.lit (.int 1))) .nil) [] .nil)))) .nil)
def N_is_address : List Str := ["value"]
abbrev C_is_address : Cc := ⟨N_is_address, defScope (top 19), N_is_address, [], ["is_name", "is_short_path", "is_tuple_up_to"], []⟩
def cb_check_number : CB := (.cons (.ifs (.not (.v (.call "is_between" (.cons (.var 0) (.cons (.var 1) (.cons (.var 2) .nil))) [] .nil))) (.cons .bad .nil) .nil) .nil)
def N_check_number : List Str := ["value", "low", "high"]
abbrev C_check_number : Cc := ⟨N_check_number, defScope (top 23), N_check_number, [], ["is_between"], []⟩
def cb_is_moment : CB := (.cons (.ret (.call "is_between" (.cons (.var 0) (.cons (.lit (.int 0)) (.cons (.glb "MOST_MOMENT") .nil))) [] .nil)) .nil)
def N_is_moment : List Str := ["value"]
abbrev C_is_moment : Cc := ⟨N_is_moment, defScope (top 28), N_is_moment, [], ["is_between"], ["MOST_MOMENT"]⟩
def cb_line_of : CB := (.cons (.unp [1, 2, 3] (.var 0)) (.cons (.ret (.mth .join (.lit (.str " ")) (.cons (.bin .add (.lst (.cons (.blt .str (.cons (.var 1) .nil)) (.cons (.idx (.var 3) (.lit (.int 0))) (.cons (.call "text_of" (.cons (.var 2) .nil) [] .nil) .nil)))) (.call "words_behind" (.cons (.var 3) .nil) [] .nil)) .nil))) .nil))
def N_line_of : List Str := ["row", "moment", "address", "event"]
abbrev C_line_of : Cc := ⟨N_line_of, defScope (top 43), N_line_of, ["str"], ["text_of", "words_behind"], []⟩
def cb__law_name : CB := (.cons (.asg 1 (.call "_law_one" (.cons (.var 0) (.cons (.tup (.cons (.lit (.int 1)) (.cons (.lit (.int 2)) (.cons (.lit (.int 3)) (.cons (.lit (.int 4)) (.cons (.lit (.int 4)) (.cons (.lit (.int 12)) .nil))))))) .nil)) [] .nil)) (.cons (.ret (.mth .join (.lit (.str "")) (.cons (.lc [2] (.v 2) (.rng1 (.var 1)) .no (.call "_law_one" (.cons (.var 0) (.cons (.lit (.str "abcdefghijklmnopqrstuvwxyz")) .nil)) [] .nil)) .nil))) .nil))
def N__law_name : List Str := ["well", "size", "turn"]
abbrev C__law_name : Cc := ⟨N__law_name, defScope (top 58), N__law_name, ["range"], ["_law_one"], []⟩
def cb__law_path : CB := (.cons (.ifs (.v (.cmp .gt (.call "_law_take" (.cons (.var 0) (.cons (.lit (.int 3)) .nil)) [] .nil) (.lit (.int 0)))) (.cons (.ret (.call "_law_one" (.cons (.var 0) (.cons (.tup (.cons (.lit (.str "/")) (.cons (.lit (.str "/a")) (.cons (.lit (.str "/b")) (.cons (.lit (.str "/a/b")) (.cons (.lit (.str "/no")) (.cons (.lit (.str "/no/a")) (.cons (.lit (.str "/x.txt")) (.cons (.lit (.str "/a-b_0")) .nil))))))))) .nil)) [] .nil)) .nil) .nil) (.cons (.asg 1 (.call "_law_one" (.cons (.var 0) (.cons (.tup (.cons (.lit (.int 0)) (.cons (.lit (.int 1)) (.cons (.lit (.int 1)) (.cons (.lit (.int 2)) (.cons (.lit (.int 3)) (.cons (.lit (.int 5)) (.cons (.lit (.int 8)) (.cons (.lit (.int 39)) .nil))))))))) .nil)) [] .nil)) (.cons (.ret (.bin .add (.lit (.str "/")) (.mth .join (.lit (.str "")) (.cons (.lc [2] (.v 2) (.rng1 (.var 1)) .no (.call "_law_one" (.cons (.var 0) (.cons (.lit (.str "-./0123456789_abcdefghijklmnopqrstuvwxyz")) .nil)) [] .nil)) .nil)))) .nil)))
def N__law_path : List Str := ["well", "size", "turn"]
abbrev C__law_path : Cc := ⟨N__law_path, defScope (top 59), N__law_path, ["range"], ["_law_one", "_law_take"], []⟩
def cb__law_answer : CB := (.cons (.asg 2 (.call "_law_take" (.cons (.var 0) (.cons (.lit (.int 6)) .nil)) [] .nil)) (.cons (.ifs (.v (.cmp .lt (.var 2) (.lit (.int 3)))) (.cons (.asg 3 (.lc [4] (.v 4) (.rng1 (.call "_law_one" (.cons (.var 0) (.cons (.tup (.cons (.lit (.int 0)) (.cons (.lit (.int 1)) (.cons (.lit (.int 2)) (.cons (.lit (.int 3)) (.cons (.lit (.int 6)) .nil)))))) .nil)) [] .nil)) .no (.call "_law_one" (.cons (.var 0) (.cons (.var 1) .nil)) [] .nil))) (.cons (.ret (.tup (.cons (.lit (.str "page")) (.cons (.call "_law_one" (.cons (.var 0) (.cons (.tup (.cons (.lit (.int 0)) (.cons (.lit (.int 7)) (.cons (.lit (.int 8)) (.cons (.lit (.int 999999)) (.cons (.call "_law_take" (.cons (.var 0) (.cons (.lit (.int 1000000)) .nil)) [] .nil) .nil)))))) .nil)) [] .nil) (.cons (.blt .tuple (.cons (.var 3) .nil)) .nil))))) .nil)) .nil) (.cons (.ifs (.v (.cmp .eq (.var 2) (.lit (.int 5)))) (.cons (.ret (.tup (.cons (.lit (.str "gone")) .nil))) .nil) .nil) (.cons (.ret (.tup (.cons (.call "_law_one" (.cons (.var 0) (.cons (.tup (.cons (.lit (.str "moved")) (.cons (.lit (.str "same")) .nil))) .nil)) [] .nil) (.cons (.call "_law_one" (.cons (.var 0) (.cons (.var 1) .nil)) [] .nil) .nil)))) .nil))))
def N__law_answer : List Str := ["well", "spots", "pick", "links", "turn"]
abbrev C__law_answer : Cc := ⟨N__law_answer, defScope (top 61), N__law_answer, ["range", "tuple"], ["_law_one", "_law_take"], []⟩
def cb__law_deeds : CB := (.cons (.own 1 (.lst .nil)) (.cons (.for_ (.v 2) (.rng1 (.blt .len (.cons (.var 0) .nil))) (.cons (.unp [3, 4, 5] (.idx (.var 0) (.var 2))) (.cons (.app 1 (.tup (.cons (.lit (.str "write")) (.cons (.call "_law_sealed" (.cons (.var 2) (.cons (.idx (.var 0) (.var 2)) .nil)) [] .nil) .nil)))) (.cons (.ifs (.v (.cmp .eq (.var 5) (.tup (.cons (.lit (.str "ask")) .nil)))) (.cons (.app 1 (.tup (.cons (.lit (.str "ask")) (.cons (.var 3) (.cons (.var 4) .nil))))) .nil) .nil) .nil)))) (.cons (.frz 1) (.cons (.ret (.var 1)) .nil))))
def N__law_deeds : List Str := ["book", "found", "k", "when", "spot", "fact"]
abbrev C__law_deeds : Cc := ⟨N__law_deeds, defScope (top 66), N__law_deeds, ["len", "range"], ["_law_sealed"], []⟩
def cb_address_in : CB := (.cons (.unp [1, 2, 3] (.mth .partition (.var 0) (.cons (.lit (.str "/")) .nil))) (.cons (.asg 4 (.tup (.cons (.var 1) (.cons (.bin .add (.var 2) (.var 3)) .nil)))) (.cons (.ret (.ite (.v (.call "is_address" (.cons (.var 4) .nil) [] .nil)) (.var 4) (.lit .non))) .nil)))
def N_address_in : List Str := ["text", "house", "slash", "path", "address"]
abbrev C_address_in : Cc := ⟨N_address_in, defScope (top 21), N_address_in, [], ["is_address"], []⟩
def cb_are_links : CB := (.cons (.ret (.and (.call "is_tuple_up_to" (.cons (.var 0) (.cons (.lit (.int 0)) (.cons (.glb "MOST_LINKS") .nil))) [] .nil) (.blt .all (.cons (.lc [1] (.v 1) (.e (.var 0)) .no (.call "is_address" (.cons (.var 1) .nil) [] .nil)) .nil)))) .nil)
def N_are_links : List Str := ["value", "each"]
abbrev C_are_links : Cc := ⟨N_are_links, defScope (top 29), N_are_links, ["all"], ["is_address", "is_tuple_up_to"], ["MOST_LINKS"]⟩
def cb_journal_line : CB := (.cons (.asg 2 (.fs (.cons (.var 0) (.cons (.lit (.str " ")) (.cons (.call "line_of" (.cons (.var 1) .nil) [] .nil) .nil))))) (.cons (.ret (.fs (.cons (.var 2) (.cons (.lit (.str " ")) (.cons (.call "seal_in" (.cons (.var 2) .nil) [] .nil) (.cons (.lit (.str "\n")) .nil)))))) .nil))
def N_journal_line : List Str := ["index", "row", "head"]
abbrev C_journal_line : Cc := ⟨N_journal_line, defScope (top 48), N_journal_line, [], ["line_of", "seal_in"], []⟩
def cb_is_deed : CB := (.cons (.ifs (.or (.not (.v (.call "is_tuple_up_to" (.cons (.var 0) (.cons (.lit (.int 2)) (.cons (.lit (.int 3)) .nil))) [] .nil))) (.not (.v (.isi (.idx (.var 0) (.lit (.int 0))) ["str"])))) (.cons (.ret (.lit (.bl false))) .nil) .nil) (.cons (.ifs (.v (.cmp .eq (.idx (.var 0) (.lit (.int 0))) (.lit (.str "write")))) (.cons (.ret (.and (.cmp .eq (.blt .len (.cons (.var 0) .nil)) (.lit (.int 2))) (.isi (.idx (.var 0) (.lit (.int 1))) ["str"]))) .nil) .nil) (.cons (.ret (.and (.cmp .eq (.idx (.var 0) (.lit (.int 0))) (.lit (.str "ask"))) (.and (.cmp .eq (.blt .len (.cons (.var 0) .nil)) (.lit (.int 3))) (.and (.call "is_moment" (.cons (.idx (.var 0) (.lit (.int 1))) .nil) [] .nil) (.call "is_address" (.cons (.idx (.var 0) (.lit (.int 2))) .nil) [] .nil))))) .nil)))
def N_is_deed : List Str := ["value"]
abbrev C_is_deed : Cc := ⟨N_is_deed, defScope (top 52), N_is_deed, ["isinstance", "len", "str"], ["is_address", "is_moment", "is_tuple_up_to"], []⟩
def cb__law_spots : CB := (.cons (.own 2 (.lst .nil)) (.cons (.for_ (.v 3) (.rng1 (.bin .add (.lit (.int 2)) (.call "_law_take" (.cons (.var 0) (.cons (.lit (.int 6)) .nil)) [] .nil))) (.cons (.asg 4 (.tup (.cons (.call "_law_one" (.cons (.var 0) (.cons (.var 1) .nil)) [] .nil) (.cons (.call "_law_path" (.cons (.var 0) .nil) [] .nil) .nil)))) (.cons (.ifs (.v (.cmp .nmem (.var 4) (.var 2))) (.cons (.app 2 (.var 4)) .nil) .nil) .nil))) (.cons (.frz 2) (.cons (.ret (.var 2)) .nil))))
def N__law_spots : List Str := ["well", "homes", "found", "turn", "spot"]
abbrev C__law_spots : Cc := ⟨N__law_spots, defScope (top 60), N__law_spots, ["range"], ["_law_one", "_law_path", "_law_take"], []⟩
def cb__law_loose_rows : CB := (.cons (.own 3 (.lst .nil)) (.cons (.for_ (.v 4) (.rng1 (.var 2)) (.cons (.asg 5 (.call "_law_one" (.cons (.var 0) (.cons (.tup (.cons (.lit (.int 0)) (.cons (.var 4) (.cons (.lit (.int 7)) (.cons (.lit (.int 999999999999)) (.cons (.call "_law_take" (.cons (.var 0) (.cons (.bin .pow (.lit (.int 10)) (.lit (.int 12))) .nil)) [] .nil) .nil)))))) .nil)) [] .nil)) (.cons (.asg 6 (.call "_law_one" (.cons (.var 0) (.cons (.tup (.cons (.tup (.cons (.lit (.str "ask")) .nil)) (.cons (.tup (.cons (.lit (.str "lost")) .nil)) (.cons (.tup (.cons (.lit (.str "cut")) .nil)) (.cons (.call "_law_answer" (.cons (.var 0) (.cons (.var 1) .nil)) [] .nil) (.cons (.call "_law_answer" (.cons (.var 0) (.cons (.var 1) .nil)) [] .nil) .nil)))))) .nil)) [] .nil)) (.cons (.app 3 (.tup (.cons (.var 5) (.cons (.call "_law_one" (.cons (.var 0) (.cons (.var 1) .nil)) [] .nil) (.cons (.var 6) .nil))))) .nil)))) (.cons (.ret (.blt .tuple (.cons (.var 3) .nil))) .nil)))
def N__law_loose_rows : List Str := ["well", "spots", "size", "found", "turn", "when", "fact"]
abbrev C__law_loose_rows : Cc := ⟨N__law_loose_rows, defScope (top 65), N__law_loose_rows, ["range", "tuple"], ["_law_answer", "_law_one", "_law_take"], []⟩
def cb_is_some_answer : CB := (.cons (.ifs (.or (.not (.v (.call "is_tuple_up_to" (.cons (.var 0) (.cons (.lit (.int 1)) (.cons (.lit (.int 3)) .nil))) [] .nil))) (.not (.v (.isi (.idx (.var 0) (.lit (.int 0))) ["str"])))) (.cons (.ret (.lit (.bl false))) .nil) .nil) (.cons (.ifs (.v (.cmp .eq (.idx (.var 0) (.lit (.int 0))) (.lit (.str "gone")))) (.cons (.ret (.cmp .eq (.blt .len (.cons (.var 0) .nil)) (.lit (.int 1)))) .nil) .nil) (.cons (.ifs (.v (.cmp .mem (.idx (.var 0) (.lit (.int 0))) (.tup (.cons (.lit (.str "moved")) (.cons (.lit (.str "same")) .nil))))) (.cons (.ret (.and (.cmp .eq (.blt .len (.cons (.var 0) .nil)) (.lit (.int 2))) (.call "is_address" (.cons (.idx (.var 0) (.lit (.int 1))) .nil) [] .nil))) .nil) .nil) (.cons (.ret (.and (.cmp .eq (.idx (.var 0) (.lit (.int 0))) (.lit (.str "page"))) (.and (.cmp .eq (.blt .len (.cons (.var 0) .nil)) (.lit (.int 3))) (.and (.call "is_between" (.cons (.idx (.var 0) (.lit (.int 1))) (.cons (.lit (.int 0)) (.cons (.glb "MOST_MARK") .nil))) [] .nil) (.call "are_links" (.cons (.idx (.var 0) (.lit (.int 2))) .nil) [] .nil))))) .nil))))
def N_is_some_answer : List Str := ["value"]
abbrev C_is_some_answer : Cc := ⟨N_is_some_answer, defScope (top 30), N_is_some_answer, ["isinstance", "len", "str"], ["are_links", "is_address", "is_between", "is_tuple_up_to"], ["MOST_MARK"]⟩
def cb_behind : CB := (.cons (.ifs (.not (.v (.isi (.var 0) ["tuple"]))) (.cons .bad .nil) .nil) (.cons (.for_ (.t [3, 4]) (.enum (.var 0)) (.cons (.ifs (.not (.v (.call "is_deed" (.cons (.var 4) .nil) [] .nil))) (.cons .bad .nil) .nil) .nil)) (.cons (.exp (.call "check_number" (.cons (.var 1) (.cons (.lit (.int 0)) (.cons (.blt .len (.cons (.var 0) .nil)) .nil))) [] .nil)) (.cons (.asg 5 (.mth .join (.lit (.str "")) (.cons (.lc [4] (.v 4) (.e (.slc (.var 0) .no (.some (.var 1)))) (.some (.v (.cmp .eq (.idx (.var 4) (.lit (.int 0))) (.lit (.str "write"))))) (.idx (.var 4) (.lit (.int 1)))) .nil))) (.cons (.asg 6 (.ite (.and (.v (.cmp .lt (.var 1) (.blt .len (.cons (.var 0) .nil)))) (.v (.cmp .eq (.idx (.idx (.var 0) (.var 1)) (.lit (.int 0))) (.lit (.str "write"))))) (.idx (.idx (.var 0) (.var 1)) (.lit (.int 1))) (.lit (.str "")))) (.cons (.exp (.call "check_number" (.cons (.var 2) (.cons (.lit (.int 0)) (.cons (.blt .max (.cons (.lit (.int 0)) (.cons (.bin .sub (.blt .len (.cons (.var 6) .nil)) (.lit (.int 1))) .nil))) .nil))) [] .nil)) (.cons (.asg 7 (.lc [4] (.v 4) (.e (.slc (.var 0) .no (.some (.var 1)))) (.some (.v (.cmp .eq (.idx (.var 4) (.lit (.int 0))) (.lit (.str "ask"))))) (.tup (.cons (.idx (.var 4) (.lit (.int 1))) (.cons (.idx (.var 4) (.lit (.int 2))) .nil))))) (.cons (.ret (.tup (.cons (.bin .add (.var 5) (.slc (.var 6) .no (.some (.var 2)))) (.cons (.blt .tuple (.cons (.var 7) .nil)) .nil)))) .nil))))))))
def N_behind : List Str := ["deeds", "many", "torn", "index", "deed", "written", "after", "asks"]
abbrev C_behind : Cc := ⟨N_behind, defScope (top 53), N_behind, ["enumerate", "isinstance", "len", "max", "tuple"], ["check_number", "is_deed"], []⟩
def cb_answer_of : CB := (.cons (.ifs (.v (.cmp .eq (.var 0) (.lst (.cons (.lit (.str "gone")) .nil)))) (.cons (.ret (.tup (.cons (.lit (.str "gone")) .nil))) .nil) .nil) (.cons (.ifs (.and (.v (.cmp .eq (.blt .len (.cons (.var 0) .nil)) (.lit (.int 2)))) (.v (.cmp .mem (.idx (.var 0) (.lit (.int 0))) (.tup (.cons (.lit (.str "moved")) (.cons (.lit (.str "same")) .nil)))))) (.cons (.asg 1 (.tup (.cons (.idx (.var 0) (.lit (.int 0))) (.cons (.call "address_in" (.cons (.idx (.var 0) (.lit (.int 1))) .nil) [] .nil) .nil)))) .nil) (.cons (.ifs (.and (.v (.chn .le .le (.lit (.int 2)) (.blt .len (.cons (.var 0) .nil)) (.bin .add (.glb "MOST_LINKS") (.lit (.int 2))))) (.and (.v (.cmp .eq (.idx (.var 0) (.lit (.int 0))) (.lit (.str "page")))) (.v (.call "is_numeral" (.cons (.idx (.var 0) (.lit (.int 1))) .nil) [] .nil)))) (.cons (.asg 1 (.tup (.cons (.lit (.str "page")) (.cons (.blt .int (.cons (.idx (.var 0) (.lit (.int 1))) .nil)) (.cons (.blt .tuple (.cons (.lc [2] (.v 2) (.e (.slc (.var 0) (.some (.lit (.int 2))) .no)) .no (.call "address_in" (.cons (.var 2) .nil) [] .nil)) .nil)) .nil))))) .nil) (.cons (.ret (.lit .non)) .nil)) .nil)) (.cons (.ret (.ite (.v (.call "is_some_answer" (.cons (.var 1) .nil) [] .nil)) (.var 1) (.lit .non))) .nil)))
def N_answer_of : List Str := ["words", "answer", "word"]
abbrev C_answer_of : Cc := ⟨N_answer_of, defScope (top 36), N_answer_of, ["int", "len", "tuple"], ["address_in", "is_numeral", "is_some_answer"], ["MOST_LINKS"]⟩
def cb_is_some_event : CB := (.cons (.ifs (.or (.not (.v (.call "is_tuple_up_to" (.cons (.var 0) (.cons (.lit (.int 1)) (.cons (.lit (.int 3)) .nil))) [] .nil))) (.not (.v (.isi (.idx (.var 0) (.lit (.int 0))) ["str"])))) (.cons (.ret (.lit (.bl false))) .nil) .nil) (.cons (.ret (.or (.and (.cmp .eq (.blt .len (.cons (.var 0) .nil)) (.lit (.int 1))) (.cmp .mem (.idx (.var 0) (.lit (.int 0))) (.tup (.cons (.lit (.str "ask")) (.cons (.lit (.str "lost")) (.cons (.lit (.str "cut")) .nil)))))) (.call "is_some_answer" (.cons (.var 0) .nil) [] .nil))) .nil))
def N_is_some_event : List Str := ["value"]
abbrev C_is_some_event : Cc := ⟨N_is_some_event, defScope (top 40), N_is_some_event, ["isinstance", "len", "str"], ["is_some_answer", "is_tuple_up_to"], []⟩
def cb_event_of : CB := (.cons (.ifs (.and (.v (.cmp .eq (.blt .len (.cons (.var 0) .nil)) (.lit (.int 1)))) (.v (.cmp .mem (.idx (.var 0) (.lit (.int 0))) (.tup (.cons (.lit (.str "ask")) (.cons (.lit (.str "lost")) (.cons (.lit (.str "cut")) .nil))))))) (.cons (.ret (.tup (.cons (.idx (.var 0) (.lit (.int 0))) .nil))) .nil) .nil) (.cons (.ret (.call "answer_of" (.cons (.var 0) .nil) [] .nil)) .nil))
def N_event_of : List Str := ["words"]
abbrev C_event_of : Cc := ⟨N_event_of, defScope (top 37), N_event_of, ["len"], ["answer_of"], []⟩
def cb_is_some_row : CB := (.cons (.ifs (.not (.v (.call "is_tuple_up_to" (.cons (.var 0) (.cons (.lit (.int 3)) (.cons (.lit (.int 3)) .nil))) [] .nil))) (.cons (.ret (.lit (.bl false))) .nil) .nil) (.cons (.ret (.and (.call "is_moment" (.cons (.idx (.var 0) (.lit (.int 0))) .nil) [] .nil) (.and (.call "is_address" (.cons (.idx (.var 0) (.lit (.int 1))) .nil) [] .nil) (.call "is_some_event" (.cons (.idx (.var 0) (.lit (.int 2))) .nil) [] .nil)))) .nil))
def N_is_some_row : List Str := ["value"]
abbrev C_is_some_row : Cc := ⟨N_is_some_row, defScope (top 41), N_is_some_row, [], ["is_address", "is_moment", "is_some_event", "is_tuple_up_to"], []⟩
def cb_check_log : CB := (.cons (.ifs (.not (.v (.isi (.var 0) ["tuple"]))) (.cons .bad .nil) .nil) (.cons (.for_ (.t [1, 2]) (.enum (.var 0)) (.cons (.ifs (.not (.v (.call "is_some_row" (.cons (.var 2) .nil) [] .nil))) (.cons .bad .nil) .nil) .nil)) .nil))
def N_check_log : List Str := ["value", "index", "row"]
abbrev C_check_log : Cc := ⟨N_check_log, defScope (top 42), N_check_log, ["enumerate", "isinstance", "tuple"], ["is_some_row"], []⟩
def cb_row_in : CB := (.cons (.asg 1 (.mth .split (.var 0) (.cons (.lit (.str " ")) .nil))) (.cons (.ifs (.or (.v (.cmp .lt (.blt .len (.cons (.var 1) .nil)) (.lit (.int 3)))) (.not (.v (.call "is_numeral" (.cons (.idx (.var 1) (.lit (.int 0))) .nil) [] .nil)))) (.cons (.ret (.lit .non)) .nil) .nil) (.cons (.asg 2 (.call "address_in" (.cons (.idx (.var 1) (.lit (.int 2))) .nil) [] .nil)) (.cons (.asg 3 (.call "event_of" (.cons (.bin .add (.lst (.cons (.idx (.var 1) (.lit (.int 1))) .nil)) (.slc (.var 1) (.some (.lit (.int 3))) .no)) .nil) [] .nil)) (.cons (.ret (.ite (.or (.v (.cmp .isN (.var 2) (.lit .non))) (.v (.cmp .isN (.var 3) (.lit .non)))) (.lit .non) (.tup (.cons (.blt .int (.cons (.idx (.var 1) (.lit (.int 0))) .nil)) (.cons (.var 2) (.cons (.var 3) .nil)))))) .nil)))))
def N_row_in : List Str := ["text", "words", "address", "event"]
abbrev C_row_in : Cc := ⟨N_row_in, defScope (top 44), N_row_in, ["int", "len"], ["address_in", "event_of", "is_numeral"], []⟩
def cb_row_at : CB := (.cons (.unp [2, 3, 4] (.mth .rpartition (.var 0) (.cons (.lit (.str " ")) .nil))) (.cons (.ifs (.v (.cmp .ne (.var 4) (.blt .str (.cons (.call "seal_in" (.cons (.var 2) .nil) [] .nil) .nil)))) (.cons (.ret (.lit .non)) .nil) .nil) (.cons (.unp [5, 3, 6] (.mth .partition (.var 2) (.cons (.lit (.str " ")) .nil))) (.cons (.ret (.ite (.v (.cmp .eq (.var 5) (.blt .str (.cons (.var 1) .nil)))) (.call "row_in" (.cons (.var 6) .nil) [] .nil) (.lit .non))) .nil))))
def N_row_at : List Str := ["line", "index", "head", "blank", "seal", "first", "rest"]
abbrev C_row_at : Cc := ⟨N_row_at, defScope (top 49), N_row_at, ["str"], ["row_in", "seal_in"], []⟩
def cb_deeds_of : CB := (.cons (.exp (.call "check_log" (.cons (.var 0) .nil) [] .nil)) (.cons (.own 1 (.lst .nil)) (.cons (.for_ (.t [2, 3]) (.enum (.var 0)) (.cons (.app 1 (.tup (.cons (.lit (.str "write")) (.cons (.call "journal_line" (.cons (.var 2) (.cons (.var 3) .nil)) [] .nil) .nil)))) (.cons (.ifs (.v (.cmp .eq (.idx (.var 3) (.lit (.int 2))) (.glb "ASK"))) (.cons (.app 1 (.tup (.cons (.lit (.str "ask")) (.cons (.idx (.var 3) (.lit (.int 0))) (.cons (.idx (.var 3) (.lit (.int 1))) .nil))))) .nil) .nil) .nil))) (.cons (.ret (.blt .tuple (.cons (.var 1) .nil))) .nil))))
def N_deeds_of : List Str := ["log", "deeds", "index", "row"]
abbrev C_deeds_of : Cc := ⟨N_deeds_of, defScope (top 51), N_deeds_of, ["enumerate", "tuple"], ["check_log", "journal_line"], ["ASK"]⟩
def cb_read_journal : CB := (.cons (.ifs (.not (.v (.isi (.var 0) ["str"]))) (.cons .bad .nil) .nil) (.cons (.asg 1 (.mth .split (.var 0) (.cons (.lit (.str "\n")) .nil))) (.cons (.own 2 (.lst .nil)) (.cons (.for_ (.v 3) (.rng1 (.bin .sub (.blt .len (.cons (.var 1) .nil)) (.lit (.int 1)))) (.cons (.asg 4 (.call "row_at" (.cons (.idx (.var 1) (.var 3)) (.cons (.var 3) .nil)) [] .nil)) (.cons (.ifs (.v (.cmp .isN (.var 4) (.lit .non))) (.cons .bad .nil) .nil) (.cons (.app 2 (.var 4)) .nil)))) (.cons (.ret (.blt .tuple (.cons (.var 2) .nil))) .nil)))))
def N_read_journal : List Str := ["text", "lines", "rows", "index", "row"]
abbrev C_read_journal : Cc := ⟨N_read_journal, defScope (top 50), N_read_journal, ["isinstance", "len", "range", "str", "tuple"], ["row_at"], []⟩
def cb__law_is_kept : CB := (.cons (.asg 2 (.call "read_journal" (.cons (.idx (.var 1) (.lit (.int 0))) .nil) [] .nil)) (.cons (.ifs (.or (.not (.v (.isi (.var 2) ["tuple"]))) (.v (.cmp .ne (.blt .repr (.cons (.var 2) .nil)) (.blt .repr (.cons (.slc (.var 0) .no (.some (.blt .len (.cons (.var 2) .nil)))) .nil))))) (.cons (.ret (.lit (.bl false))) .nil) .nil) (.cons (.asg 3 (.lc [4] (.v 4) (.e (.slc (.var 0) .no (.some (.blt .len (.cons (.var 2) .nil))))) (.some (.v (.cmp .eq (.idx (.var 4) (.lit (.int 2))) (.tup (.cons (.lit (.str "ask")) .nil))))) (.tup (.cons (.idx (.var 4) (.lit (.int 0))) (.cons (.idx (.var 4) (.lit (.int 1))) .nil))))) (.cons (.ret (.and (.cmp .mem (.bin .sub (.blt .len (.cons (.var 3) .nil)) (.blt .len (.cons (.idx (.var 1) (.lit (.int 1))) .nil))) (.tup (.cons (.lit (.int 0)) (.cons (.lit (.int 1)) .nil)))) (.cmp .eq (.blt .repr (.cons (.slc (.var 3) .no (.some (.blt .len (.cons (.idx (.var 1) (.lit (.int 1))) .nil)))) .nil)) (.blt .repr (.cons (.blt .list (.cons (.idx (.var 1) (.lit (.int 1))) .nil)) .nil))))) .nil))))
def N__law_is_kept : List Str := ["book", "told", "back", "asked", "line"]
abbrev C__law_is_kept : Cc := ⟨N__law_is_kept, defScope (top 68), N__law_is_kept, ["isinstance", "len", "list", "repr", "tuple"], ["read_journal"], []⟩
def cb__law_right_3b0 : CB := (.cons (.ret (.lit (.bl false))) .nil)
def cb__law_right_4b1b0 : CB := (.cons (.asg 6 (.call "_law_one" (.cons (.var 0) (.cons (.tup (.cons (.lit (.int 0)) (.cons (.lit (.int 1)) (.cons (.call "_law_take" (.cons (.var 0) (.cons (.blt .len (.cons (.idx (.idx (.var 3) (.var 5)) (.lit (.int 1))) .nil)) .nil)) [] .nil) (.cons (.bin .sub (.blt .len (.cons (.idx (.idx (.var 3) (.var 5)) (.lit (.int 1))) .nil)) (.lit (.int 1))) .nil))))) .nil)) [] .nil)) .nil)
def cb__law_right_4b3b0 : CB := (.cons (.ret (.lit (.bl false))) .nil)
def cb__law_right_4b4b0 : CB := (.cons (.ret (.lit (.bl false))) .nil)
def cb__law_right_4b4 : CB := (.cons (.ifs (.v (.cmp .ne (.blt .repr (.cons (.lst (.cons (.call "behind" (.cons (.blt .tuple (.cons (.var 3) .nil)) (.cons (.var 5) .nil)) [] .nil) (.cons (.call "behind" .nil ["many", "deeds"] (.cons (.var 5) (.cons (.blt .tuple (.cons (.var 3) .nil)) .nil))) .nil))) .nil)) (.blt .repr (.cons (.bin .mul (.lst (.cons (.call "_law_left" (.cons (.var 3) (.cons (.var 5) (.cons (.lit (.int 0)) .nil))) [] .nil) .nil)) (.lit (.int 2))) .nil)))) cb__law_right_4b4b0 .nil) .nil)
def cb__law_right_4b3 : CB := (.cons (.ifs (.or (.v (.cmp .ne (.blt .repr (.cons (.var 7) .nil)) (.blt .repr (.cons (.call "_law_left" (.cons (.var 3) (.cons (.var 5) (.cons (.var 6) .nil))) [] .nil) .nil)))) (.not (.v (.call "_law_is_kept" (.cons (.var 2) (.cons (.var 7) .nil)) [] .nil)))) cb__law_right_4b3b0 .nil) cb__law_right_4b4)
def cb__law_right_4b2 : CB := (.cons (.asg 7 (.call "behind" (.cons (.blt .tuple (.cons (.var 3) .nil)) (.cons (.var 5) (.cons (.var 6) .nil))) [] .nil)) cb__law_right_4b3)
def cb__law_right_4b1 : CB := (.cons (.ifs (.and (.v (.cmp .lt (.var 5) (.blt .len (.cons (.var 3) .nil)))) (.v (.cmp .eq (.idx (.idx (.var 3) (.var 5)) (.lit (.int 0))) (.lit (.str "write"))))) cb__law_right_4b1b0 .nil) cb__law_right_4b2)
def cb__law_right_4b0 : CB := (.cons (.par 5 6 (.call "_law_take" (.cons (.var 0) (.cons (.bin .add (.blt .len (.cons (.var 3) .nil)) (.lit (.int 1))) .nil)) [] .nil) (.lit (.int 0))) cb__law_right_4b1)
def cb__law_right_7 : CB := (.cons (.ret (.cmp .eq (.blt .repr (.cons (.call "behind" .nil ["torn", "deeds", "many"] (.cons (.lit (.int 2)) (.cons (.blt .tuple (.cons (.var 8) .nil)) (.cons (.bin .sub (.blt .len (.cons (.var 8) .nil)) (.lit (.int 1))) .nil)))) .nil)) (.blt .repr (.cons (.call "_law_left" (.cons (.var 8) (.cons (.bin .sub (.blt .len (.cons (.var 8) .nil)) (.lit (.int 1))) (.cons (.lit (.int 2)) .nil))) [] .nil) .nil)))) .nil)
def cb__law_right_6 : CB := (.cons (.asg 8 (.bin .add (.lc [4] (.v 4) (.rng1 (.call "_law_take" (.cons (.var 0) (.cons (.lit (.int 9)) .nil)) [] .nil)) .no (.call "_law_one" (.cons (.var 0) (.cons (.var 8) .nil)) [] .nil)) (.lst (.cons (.tup (.cons (.lit (.str "write")) (.cons (.lit (.str "ab~\n")) .nil))) .nil)))) cb__law_right_7)
def cb__law_right_5 : CB := (.cons (.asg 8 (.bin .add (.var 3) (.lst (.cons (.tup (.cons (.lit (.str "write")) (.cons (.lit (.str "")) .nil))) (.cons (.tup (.cons (.lit (.str "ask")) (.cons (.lit (.int 0)) (.cons (.idx (.var 1) (.lit (.int 0))) .nil)))) (.cons (.tup (.cons (.lit (.str "write")) (.cons (.lit (.str "x y")) .nil))) (.cons (.tup (.cons (.lit (.str "write")) (.cons (.lit (.str "z")) .nil))) (.cons (.tup (.cons (.lit (.str "ask")) (.cons (.lit (.int 999999999999)) (.cons (.idx (.var 1) (.neg (.lit (.int 1)))) .nil)))) .nil)))))))) cb__law_right_6)
def cb__law_right_4 : CB := (.cons (.for_ (.v 4) (.rng1 (.lit (.int 10))) cb__law_right_4b0) cb__law_right_5)
def cb__law_right_3 : CB := (.cons (.ifs (.v (.cmp .ne (.blt .repr (.cons (.lst (.cons (.call "deeds_of" (.cons (.var 2) .nil) [] .nil) (.cons (.call "deeds_of" .nil ["log"] (.cons (.var 2) .nil)) .nil))) .nil)) (.blt .repr (.cons (.lst (.cons (.blt .tuple (.cons (.var 3) .nil)) (.cons (.blt .tuple (.cons (.var 3) .nil)) .nil))) .nil)))) cb__law_right_3b0 .nil) cb__law_right_4)
def cb__law_right_2 : CB := (.cons (.asg 3 (.call "_law_deeds" (.cons (.var 2) .nil) [] .nil)) cb__law_right_3)
def cb__law_right_1 : CB := (.cons (.asg 2 (.call "_law_loose_rows" (.cons (.var 0) (.cons (.var 1) (.cons (.call "_law_one" (.cons (.var 0) (.cons (.tup (.cons (.lit (.int 0)) (.cons (.lit (.int 1)) (.cons (.lit (.int 2)) (.cons (.lit (.int 5)) (.cons (.lit (.int 8)) .nil)))))) .nil)) [] .nil) .nil))) [] .nil)) cb__law_right_2)
def cb__law_right : CB := (.cons (.asg 1 (.call "_law_spots" (.cons (.var 0) (.cons (.lst (.cons (.call "_law_name" (.cons (.var 0) .nil) [] .nil) (.cons (.call "_law_name" (.cons (.var 0) .nil) [] .nil) .nil))) .nil)) [] .nil)) cb__law_right_1)
def N__law_right : List Str := ["well", "spots", "book", "acts", "turn", "size", "torn_here", "told", "loose"]
abbrev C__law_right : Cc := ⟨N__law_right, defScope (top 69), N__law_right, ["len", "range", "repr", "tuple"], ["_law_deeds", "_law_is_kept", "_law_left", "_law_loose_rows", "_law_name", "_law_one", "_law_spots", "_law_take", "behind", "deeds_of"], []⟩
def cb_law : CB := (.cons (.ret (.blt .all (.cons (.lc [1] (.v 1) (.rng1 (.blt .max (.cons (.lit (.int 1)) (.cons (.blt .min (.cons (.blt .len (.cons (.var 0) .nil)) (.cons (.lit (.int 4)) .nil))) .nil)))) .no (.call "_law_right" (.cons (.call "_law_well" (.cons (.var 0) (.cons (.var 1) .nil)) [] .nil) .nil) [] .nil)) .nil))) .nil)
def N_law : List Str := ["script", "turn"]
abbrev C_law : Cc := ⟨N_law, defScope (top 70), N_law, ["all", "len", "max", "min", "range"], ["_law_right", "_law_well"], []⟩
end K47

/-! k47: what each def does -/
namespace K47
open PySem L2 PyProof.Rows FR

abbrev D := PyData
abbrev stD (l : TX) : D := .str (mk l)
abbrev rsD (rs : List Rw) : D := .tuple (rs.map rwD)
abbrev spD (as : List Ad) : D := .list (as.map adD)
def nameOk (l : TX) : Prop := 1 ≤ l.length ∧ l.length ≤ 12 ∧ ∀ c ∈ l, 97 ≤ c ∧ c ≤ 122
def pathOk (l : TX) : Prop := l.head? = some 47 ∧ l.length ≤ 40 ∧ ∀ c ∈ l, sgn c = true
def small (l : TX) : Prop := l.length ≤ 100000 ∧ ∀ c ∈ l, c < 1000000
def sp_is_name : FS := fun ds kd _ => ∃ l, ds = [stD l] ∧ nameOk l ∧ kd (.bool true)
def sp_is_path : FS := fun ds kd _ => ∃ l, ds = [stD l] ∧ pathOk l ∧ kd (.bool true)
def sp_is_whole : FS := fun ds kd _ => ∃ i, ds = [.int i] ∧ kd (.bool true)
def sp_is_tuple_up_to : FS := fun ds kd _ => ∃ xs lo hi, ds = [.tuple xs, .int lo, .int hi] ∧ kd (.bool (decide (lo ≤ xs.length ∧ (xs.length : Int) ≤ hi)))
def sp_text_of : FS := fun ds kd _ => ∃ a, ds = [adD a] ∧ AdOk a ∧ kd (stD (adT a))
def sp_is_numeral : FS := fun ds kd _ => ∃ n, ds = [stD (TL.numL n)] ∧ n ≤ 999999999999 ∧ kd (.bool true)
def sp_seal_in : FS := fun ds kd _ => ∃ l, ds = [stD l] ∧ small l ∧ kd (.int (sealN l : Nat))
def sp__law_seal : FS := sp_seal_in
def sp__law_line : FS := fun ds kd _ => ∃ r, ds = [rwD r] ∧ RwOk r ∧ kd (stD (lineL r))
def sp_line_of : FS := sp__law_line
def sp_is_between : FS := fun ds kd _ => ∃ i lo hi, ds = [.int i, .int lo, .int hi] ∧ kd (.bool (decide (lo ≤ i ∧ i ≤ hi)))
def sp_is_short_path : FS := fun ds kd _ => ∃ l, ds = [stD l] ∧ pathOk l ∧ kd (.bool true)
def sp_words_behind : FS := fun ds kd _ => ∃ e, ds = [evD e] ∧ EvOk e ∧ kd (.list ((behL e).map stD))
def sp__law_one : FS := fun ds kd _ => (∃ xs, (ds = [wellD, .list xs] ∨ ds = [wellD, .tuple xs]) ∧ 1 ≤ xs.length ∧ xs.length ≤ 1000 ∧ ∀ x ∈ xs, kd x) ∨ (∃ l, ds = [wellD, stD l] ∧ 1 ≤ l.length ∧ l.length ≤ 1000 ∧ ∀ c ∈ l, kd (stD [c]))
def sp__law_sealed : FS := fun ds kd _ => ∃ (k : Nat) (r : Rw), ds = [.int k, rwD r] ∧ k ≤ 1000 ∧ RwOk r ∧ kd (stD (jlL k r ++ [10]))
def sp_journal_line : FS := sp__law_sealed
def sp_is_address : FS := fun ds kd _ => ∃ a, ds = [adD a] ∧ AdOk a ∧ kd (.bool true)
def sp_is_moment : FS := fun ds kd _ => ∃ n : Nat, ds = [.int n] ∧ n ≤ 999999999999 ∧ kd (.bool true)
def sp__law_name : FS := fun ds kd _ => ds = [wellD] ∧ ∀ l, nameOk l → kd (stD l)
def sp__law_path : FS := fun ds kd _ => ds = [wellD] ∧ ∀ l, pathOk l → kd (stD l)
def spotsOk (as : List Ad) : Prop := 1 ≤ as.length ∧ as.length ≤ 10 ∧ ∀ a ∈ as, AdOk a
def sp__law_answer : FS := fun ds kd _ => ∃ as, ds = [wellD, spD as] ∧ spotsOk as ∧ ∀ e, EvOk e → kd (evD e)
def sp_address_in : FS := fun ds kd _ => ∃ a, ds = [stD (adT a)] ∧ AdOk a ∧ kd (adD a)
def sp_are_links : FS := fun ds kd _ => ∃ as : List Ad, ds = [.tuple (as.map adD)] ∧ as.length ≤ 6 ∧ (∀ a ∈ as, AdOk a) ∧ kd (.bool true)
def sp__law_spots : FS := fun ds kd _ => ∃ hs : List TX, ds = [wellD, .list (hs.map stD)] ∧ (1 ≤ hs.length ∧ hs.length ≤ 10) ∧ (∀ l ∈ hs, nameOk l) ∧ ∀ as, spotsOk as → kd (spD as)
def sp__law_loose_rows : FS := fun ds kd _ => ∃ as, ∃ n : Nat, ds = [wellD, spD as, .int n] ∧ spotsOk as ∧ n ≤ 100 ∧ ∀ rs : List Rw, rs.length = n → (∀ r ∈ rs, RwOk r) → kd (rsD rs)
def isAns : Ev → Prop
  | .ask => False | .lost => False | .cut => False | _ => True
def sp_is_some_answer : FS := fun ds kd _ => ∃ e, ds = [evD e] ∧ EvOk e ∧ isAns e ∧ kd (.bool true)
def evW (e : Ev) : D := .list (.str (kindS e) :: (behL e).map stD)
def sp_answer_of : FS := fun ds kd _ => ∃ e, ds = [evW e] ∧ EvOk e ∧ isAns e ∧ kd (evD e)
def sp_is_some_event : FS := fun ds kd _ => ∃ e, ds = [evD e] ∧ EvOk e ∧ kd (.bool true)
def sp_event_of : FS := fun ds kd _ => ∃ e, ds = [evW e] ∧ EvOk e ∧ kd (evD e)
def sp_is_some_row : FS := fun ds kd _ => ∃ r, ds = [rwD r] ∧ RwOk r ∧ kd (.bool true)
def sp_check_log : FS := fun ds kd _ => ∃ rs, ds = [rsD rs] ∧ (∀ r ∈ rs, RwOk r) ∧ rs.length ≤ 1000 ∧ kd .none
def sp_row_in : FS := fun ds kd _ => ∃ r, ds = [stD (lineL r)] ∧ RwOk r ∧ kd (rwD r)
def sp_row_at : FS := fun ds kd _ => ∃ (k : Nat) (r : Rw), ds = [stD (jlL k r), .int k] ∧ k ≤ 1000 ∧ RwOk r ∧ kd (rwD r)
def sp_read_journal : FS := fun ds kd _ => ∃ rs t, ds = [stD (jourL rs ++ t)] ∧ (∀ r ∈ rs, RwOk r) ∧ rs.length ≤ 1000 ∧ 10 ∉ t ∧ t.length ≤ 100000 ∧ kd (rsD rs)
def sp_check_number : FS := fun ds kd _ => ∃ i lo hi, ds = [.int i, .int lo, .int hi] ∧ lo ≤ i ∧ i ≤ hi ∧ kd .none
abbrev ddsD (ds : List Dd) : D := .tuple (ds.map ddD)
abbrev asD (as : List (Nat × Ad)) : D := .tuple (as.map fun p => .tuple [.int (p.1 : Nat), adD p.2])
def okDs (ds : List Dd) : Prop := ds.length ≤ 1000 ∧ ∀ d ∈ ds, DdOk d
def sp_is_deed : FS := fun ds kd _ => ∃ d, ds = [ddD d] ∧ DdOk d ∧ kd (.bool true)
/-- what is written next, if anything is -/
def aftL (ds : List Dd) (n : Nat) : TX := match ds[n]? with
  | some (.w l) => l
  | _ => []
def leftD (ds : List Dd) (n t : Nat) : D := .tuple [stD ((wrL (ds.take n)).flatten ++ (aftL ds n).take t), asD (asL (ds.take n))]
def sp_behind : FS := fun es kd _ => ∃ ds, ∃ n t : Nat, es = [ddsD ds, .int n, .int t] ∧ okDs ds ∧ n ≤ ds.length ∧ (t = 0 ∨ t + 1 ≤ (aftL ds n).length) ∧ kd (leftD ds n t)
def sp__law_left : FS := fun es kd _ => ∃ ds, ∃ n t : Nat, es = [.list (ds.map ddD), .int n, .int t] ∧ okDs ds ∧ n ≤ ds.length ∧ (t = 0 ∨ t + 1 ≤ (aftL ds n).length) ∧ kd (leftD ds n t)
def sp_deeds_of : FS := fun es kd _ => ∃ rs, es = [rsD rs] ∧ (∀ r ∈ rs, RwOk r) ∧ rs.length ≤ 100 ∧ kd (ddsD (ddsL 0 rs))
def sp__law_deeds : FS := fun es kd _ => ∃ rs, es = [rsD rs] ∧ (∀ r ∈ rs, RwOk r) ∧ rs.length ≤ 100 ∧ kd (.list ((ddsL 0 rs).map ddD))
def sp__law_is_kept : FS := fun es kd _ => ∃ rs, ∃ n t : Nat, es = [rsD rs, leftD (ddsL 0 rs) n t] ∧ (∀ r ∈ rs, RwOk r) ∧ rs.length ≤ 12 ∧ (t = 0 ∨ t + 1 ≤ (aftL (ddsL 0 rs) n).length) ∧ kd (.bool true)
def sp__law_right : FS := fun ds kd _ => ds = [wellD] ∧ kd (.bool true)
def sp_law : FS := fun ds kd _ => ∃ ns, ds = [scrD ns] ∧ kd (.bool true)
end K47

namespace K47
open PySem L2 PyProof.Rows FR
abbrev shT0 : List (Str × List (Nat × List Str × List Src)) := [(("is_name" : Str), [(1, [], [Src.p 0])]), (("is_path" : Str), [(1, [], [Src.p 0])]), (("is_whole" : Str), [(1, [], [Src.p 0])]), (("is_tuple_up_to" : Str), [(3, [], [Src.p 0, Src.p 1, Src.p 2])]), (("text_of" : Str), [(1, [], [Src.p 0])]), (("is_numeral" : Str), [(1, [], [Src.p 0])]), (("seal_in" : Str), [(1, [], [Src.p 0])]), (("_law_well" : Str), [(2, [], [Src.p 0, Src.p 1])]), (("_law_take" : Str), [(2, [], [Src.p 0, Src.p 1])]), (("_law_line" : Str), [(1, [], [Src.p 0])]), (("_law_seal" : Str), [(1, [], [Src.p 0])]), (("_law_left" : Str), [(3, [], [Src.p 0, Src.p 1, Src.p 2])])]
abbrev shT1 : List (Str × List (Nat × List Str × List Src)) := [(("is_between" : Str), [(3, [], [Src.p 0, Src.p 1, Src.p 2])]), (("is_short_path" : Str), [(1, [], [Src.p 0])]), (("words_behind" : Str), [(1, [], [Src.p 0])]), (("_law_one" : Str), [(2, [], [Src.p 0, Src.p 1])]), (("_law_sealed" : Str), [(2, [], [Src.p 0, Src.p 1])]), (("is_address" : Str), [(1, [], [Src.p 0])]), (("check_number" : Str), [(3, [], [Src.p 0, Src.p 1, Src.p 2])]), (("is_moment" : Str), [(1, [], [Src.p 0])]), (("line_of" : Str), [(1, [], [Src.p 0])]), (("_law_name" : Str), [(1, [], [Src.p 0])]), (("_law_path" : Str), [(1, [], [Src.p 0])]), (("_law_answer" : Str), [(2, [], [Src.p 0, Src.p 1])])]
abbrev shT2 : List (Str × List (Nat × List Str × List Src)) := [(("_law_deeds" : Str), [(1, [], [Src.p 0])]), (("address_in" : Str), [(1, [], [Src.p 0])]), (("are_links" : Str), [(1, [], [Src.p 0])]), (("journal_line" : Str), [(2, [], [Src.p 0, Src.p 1])]), (("is_deed" : Str), [(1, [], [Src.p 0])]), (("_law_spots" : Str), [(2, [], [Src.p 0, Src.p 1])]), (("_law_loose_rows" : Str), [(3, [], [Src.p 0, Src.p 1, Src.p 2])]), (("is_some_answer" : Str), [(1, [], [Src.p 0])]), (("behind" : Str), [(0, ["many", "deeds"], [Src.k 1, Src.k 0, Src.c 0 (.int 0)]), (0, ["torn", "deeds", "many"], [Src.k 1, Src.k 2, Src.k 0]), (2, [], [Src.p 0, Src.p 1, Src.c 0 (.int 0)]), (3, [], [Src.p 0, Src.p 1, Src.p 2])]), (("answer_of" : Str), [(1, [], [Src.p 0])]), (("is_some_event" : Str), [(1, [], [Src.p 0])]), (("event_of" : Str), [(1, [], [Src.p 0])])]
abbrev shT3 : List (Str × List (Nat × List Str × List Src)) := [(("is_some_row" : Str), [(1, [], [Src.p 0])]), (("check_log" : Str), [(1, [], [Src.p 0])]), (("row_in" : Str), [(1, [], [Src.p 0])]), (("row_at" : Str), [(2, [], [Src.p 0, Src.p 1])]), (("deeds_of" : Str), [(0, ["log"], [Src.k 0]), (1, [], [Src.p 0])]), (("read_journal" : Str), [(1, [], [Src.p 0])]), (("_law_is_kept" : Str), [(2, [], [Src.p 0, Src.p 1])]), (("_law_right" : Str), [(1, [], [Src.p 0])])]
abbrev fnT0 : List (Str × FS) := [(("is_name" : Str), sp_is_name), (("is_path" : Str), sp_is_path), (("is_whole" : Str), sp_is_whole), (("is_tuple_up_to" : Str), sp_is_tuple_up_to), (("text_of" : Str), sp_text_of), (("is_numeral" : Str), sp_is_numeral), (("seal_in" : Str), sp_seal_in), (("_law_well" : Str), wellFS), (("_law_take" : Str), pickFS), (("_law_line" : Str), sp__law_line), (("_law_seal" : Str), sp__law_seal), (("_law_left" : Str), sp__law_left)]
abbrev fnT1 : List (Str × FS) := [(("is_between" : Str), sp_is_between), (("is_short_path" : Str), sp_is_short_path), (("words_behind" : Str), sp_words_behind), (("_law_one" : Str), sp__law_one), (("_law_sealed" : Str), sp__law_sealed), (("is_address" : Str), sp_is_address), (("check_number" : Str), sp_check_number), (("is_moment" : Str), sp_is_moment), (("line_of" : Str), sp_line_of), (("_law_name" : Str), sp__law_name), (("_law_path" : Str), sp__law_path), (("_law_answer" : Str), sp__law_answer)]
abbrev fnT2 : List (Str × FS) := [(("_law_deeds" : Str), sp__law_deeds), (("address_in" : Str), sp_address_in), (("are_links" : Str), sp_are_links), (("journal_line" : Str), sp_journal_line), (("is_deed" : Str), sp_is_deed), (("_law_spots" : Str), sp__law_spots), (("_law_loose_rows" : Str), sp__law_loose_rows), (("is_some_answer" : Str), sp_is_some_answer), (("behind" : Str), sp_behind), (("answer_of" : Str), sp_answer_of), (("is_some_event" : Str), sp_is_some_event), (("event_of" : Str), sp_event_of)]
abbrev fnT3 : List (Str × FS) := [(("is_some_row" : Str), sp_is_some_row), (("check_log" : Str), sp_check_log), (("row_in" : Str), sp_row_in), (("row_at" : Str), sp_row_at), (("deeds_of" : Str), sp_deeds_of), (("read_journal" : Str), sp_read_journal), (("_law_is_kept" : Str), sp__law_is_kept), (("_law_right" : Str), sp__law_right)]
def G : FR.Ctx where
  fn := fun x => (fnT0 ++ fnT1 ++ fnT2 ++ fnT3).lookup x
  sh := shT0 ++ shT1 ++ shT2 ++ shT3
  gl := fun x => [(("ASK" : Str), PyData.tuple [PyData.str "ask"]), (("DIGITS" : Str), PyData.str "0123456789"), (("LETTERS" : Str), PyData.str "abcdefghijklmnopqrstuvwxyz"), (("MOST_DIGITS" : Str), PyData.int 12), (("MOST_LETTERS" : Str), PyData.int 12), (("MOST_LINKS" : Str), PyData.int 6), (("MOST_MARK" : Str), PyData.int 999999), (("MOST_MOMENT" : Str), PyData.int 999999999999), (("MOST_SIGNS" : Str), PyData.int 40), (("SEALS" : Str), PyData.int 999983), (("SIGNS" : Str), PyData.str "-./0123456789_abcdefghijklmnopqrstuvwxyz")].lookup x
theorem fn_is_name : G.fn "is_name" = some sp_is_name := by kernel_rfl
theorem sh_is_name : shapeOf G "is_name" 1 [] = some [Src.p 0] := by kernel_rfl
theorem fn_is_path : G.fn "is_path" = some sp_is_path := by kernel_rfl
theorem sh_is_path : shapeOf G "is_path" 1 [] = some [Src.p 0] := by kernel_rfl
theorem fn_is_whole : G.fn "is_whole" = some sp_is_whole := by kernel_rfl
theorem sh_is_whole : shapeOf G "is_whole" 1 [] = some [Src.p 0] := by kernel_rfl
theorem fn_is_tuple_up_to : G.fn "is_tuple_up_to" = some sp_is_tuple_up_to := by kernel_rfl
theorem sh_is_tuple_up_to : shapeOf G "is_tuple_up_to" 3 [] = some [Src.p 0, Src.p 1, Src.p 2] := by kernel_rfl
theorem fn_text_of : G.fn "text_of" = some sp_text_of := by kernel_rfl
theorem sh_text_of : shapeOf G "text_of" 1 [] = some [Src.p 0] := by kernel_rfl
theorem fn_is_numeral : G.fn "is_numeral" = some sp_is_numeral := by kernel_rfl
theorem sh_is_numeral : shapeOf G "is_numeral" 1 [] = some [Src.p 0] := by kernel_rfl
theorem fn_seal_in : G.fn "seal_in" = some sp_seal_in := by kernel_rfl
theorem sh_seal_in : shapeOf G "seal_in" 1 [] = some [Src.p 0] := by kernel_rfl
theorem fn__law_well : G.fn "_law_well" = some wellFS := by kernel_rfl
theorem sh__law_well : shapeOf G "_law_well" 2 [] = some [Src.p 0, Src.p 1] := by kernel_rfl
theorem fn__law_take : G.fn "_law_take" = some pickFS := by kernel_rfl
theorem sh__law_take : shapeOf G "_law_take" 2 [] = some [Src.p 0, Src.p 1] := by kernel_rfl
theorem fn__law_line : G.fn "_law_line" = some sp__law_line := by kernel_rfl
theorem sh__law_line : shapeOf G "_law_line" 1 [] = some [Src.p 0] := by kernel_rfl
theorem fn__law_seal : G.fn "_law_seal" = some sp__law_seal := by kernel_rfl
theorem sh__law_seal : shapeOf G "_law_seal" 1 [] = some [Src.p 0] := by kernel_rfl
theorem fn__law_left : G.fn "_law_left" = some sp__law_left := by kernel_rfl
theorem sh__law_left : shapeOf G "_law_left" 3 [] = some [Src.p 0, Src.p 1, Src.p 2] := by kernel_rfl
theorem fn_is_between : G.fn "is_between" = some sp_is_between := by kernel_rfl
theorem sh_is_between : shapeOf G "is_between" 3 [] = some [Src.p 0, Src.p 1, Src.p 2] := by kernel_rfl
theorem fn_is_short_path : G.fn "is_short_path" = some sp_is_short_path := by kernel_rfl
theorem sh_is_short_path : shapeOf G "is_short_path" 1 [] = some [Src.p 0] := by kernel_rfl
theorem fn_words_behind : G.fn "words_behind" = some sp_words_behind := by kernel_rfl
theorem sh_words_behind : shapeOf G "words_behind" 1 [] = some [Src.p 0] := by kernel_rfl
theorem fn__law_one : G.fn "_law_one" = some sp__law_one := by kernel_rfl
theorem sh__law_one : shapeOf G "_law_one" 2 [] = some [Src.p 0, Src.p 1] := by kernel_rfl
theorem fn__law_sealed : G.fn "_law_sealed" = some sp__law_sealed := by kernel_rfl
theorem sh__law_sealed : shapeOf G "_law_sealed" 2 [] = some [Src.p 0, Src.p 1] := by kernel_rfl
theorem fn_is_address : G.fn "is_address" = some sp_is_address := by kernel_rfl
theorem sh_is_address : shapeOf G "is_address" 1 [] = some [Src.p 0] := by kernel_rfl
theorem fn_check_number : G.fn "check_number" = some sp_check_number := by kernel_rfl
theorem sh_check_number : shapeOf G "check_number" 3 [] = some [Src.p 0, Src.p 1, Src.p 2] := by kernel_rfl
theorem fn_is_moment : G.fn "is_moment" = some sp_is_moment := by kernel_rfl
theorem sh_is_moment : shapeOf G "is_moment" 1 [] = some [Src.p 0] := by kernel_rfl
theorem fn_line_of : G.fn "line_of" = some sp_line_of := by kernel_rfl
theorem sh_line_of : shapeOf G "line_of" 1 [] = some [Src.p 0] := by kernel_rfl
theorem fn__law_name : G.fn "_law_name" = some sp__law_name := by kernel_rfl
theorem sh__law_name : shapeOf G "_law_name" 1 [] = some [Src.p 0] := by kernel_rfl
theorem fn__law_path : G.fn "_law_path" = some sp__law_path := by kernel_rfl
theorem sh__law_path : shapeOf G "_law_path" 1 [] = some [Src.p 0] := by kernel_rfl
theorem fn__law_answer : G.fn "_law_answer" = some sp__law_answer := by kernel_rfl
theorem sh__law_answer : shapeOf G "_law_answer" 2 [] = some [Src.p 0, Src.p 1] := by kernel_rfl
theorem fn__law_deeds : G.fn "_law_deeds" = some sp__law_deeds := by kernel_rfl
theorem sh__law_deeds : shapeOf G "_law_deeds" 1 [] = some [Src.p 0] := by kernel_rfl
theorem fn_address_in : G.fn "address_in" = some sp_address_in := by kernel_rfl
theorem sh_address_in : shapeOf G "address_in" 1 [] = some [Src.p 0] := by kernel_rfl
theorem fn_are_links : G.fn "are_links" = some sp_are_links := by kernel_rfl
theorem sh_are_links : shapeOf G "are_links" 1 [] = some [Src.p 0] := by kernel_rfl
theorem fn_journal_line : G.fn "journal_line" = some sp_journal_line := by kernel_rfl
theorem sh_journal_line : shapeOf G "journal_line" 2 [] = some [Src.p 0, Src.p 1] := by kernel_rfl
theorem fn_is_deed : G.fn "is_deed" = some sp_is_deed := by kernel_rfl
theorem sh_is_deed : shapeOf G "is_deed" 1 [] = some [Src.p 0] := by kernel_rfl
theorem fn__law_spots : G.fn "_law_spots" = some sp__law_spots := by kernel_rfl
theorem sh__law_spots : shapeOf G "_law_spots" 2 [] = some [Src.p 0, Src.p 1] := by kernel_rfl
theorem fn__law_loose_rows : G.fn "_law_loose_rows" = some sp__law_loose_rows := by kernel_rfl
theorem sh__law_loose_rows : shapeOf G "_law_loose_rows" 3 [] = some [Src.p 0, Src.p 1, Src.p 2] := by kernel_rfl
theorem fn_is_some_answer : G.fn "is_some_answer" = some sp_is_some_answer := by kernel_rfl
theorem sh_is_some_answer : shapeOf G "is_some_answer" 1 [] = some [Src.p 0] := by kernel_rfl
theorem fn_behind : G.fn "behind" = some sp_behind := by kernel_rfl
theorem sh_behind : shapeOf G "behind" 0 ["many", "deeds"] = some [Src.k 1, Src.k 0, Src.c 0 (.int 0)] := by kernel_rfl
theorem sh_behind_1 : shapeOf G "behind" 0 ["torn", "deeds", "many"] = some [Src.k 1, Src.k 2, Src.k 0] := by kernel_rfl
theorem sh_behind_2 : shapeOf G "behind" 2 [] = some [Src.p 0, Src.p 1, Src.c 0 (.int 0)] := by kernel_rfl
theorem sh_behind_3 : shapeOf G "behind" 3 [] = some [Src.p 0, Src.p 1, Src.p 2] := by kernel_rfl
theorem fn_answer_of : G.fn "answer_of" = some sp_answer_of := by kernel_rfl
theorem sh_answer_of : shapeOf G "answer_of" 1 [] = some [Src.p 0] := by kernel_rfl
theorem fn_is_some_event : G.fn "is_some_event" = some sp_is_some_event := by kernel_rfl
theorem sh_is_some_event : shapeOf G "is_some_event" 1 [] = some [Src.p 0] := by kernel_rfl
theorem fn_event_of : G.fn "event_of" = some sp_event_of := by kernel_rfl
theorem sh_event_of : shapeOf G "event_of" 1 [] = some [Src.p 0] := by kernel_rfl
theorem fn_is_some_row : G.fn "is_some_row" = some sp_is_some_row := by kernel_rfl
theorem sh_is_some_row : shapeOf G "is_some_row" 1 [] = some [Src.p 0] := by kernel_rfl
theorem fn_check_log : G.fn "check_log" = some sp_check_log := by kernel_rfl
theorem sh_check_log : shapeOf G "check_log" 1 [] = some [Src.p 0] := by kernel_rfl
theorem fn_row_in : G.fn "row_in" = some sp_row_in := by kernel_rfl
theorem sh_row_in : shapeOf G "row_in" 1 [] = some [Src.p 0] := by kernel_rfl
theorem fn_row_at : G.fn "row_at" = some sp_row_at := by kernel_rfl
theorem sh_row_at : shapeOf G "row_at" 2 [] = some [Src.p 0, Src.p 1] := by kernel_rfl
theorem fn_deeds_of : G.fn "deeds_of" = some sp_deeds_of := by kernel_rfl
theorem sh_deeds_of : shapeOf G "deeds_of" 0 ["log"] = some [Src.k 0] := by kernel_rfl
theorem sh_deeds_of_1 : shapeOf G "deeds_of" 1 [] = some [Src.p 0] := by kernel_rfl
theorem fn_read_journal : G.fn "read_journal" = some sp_read_journal := by kernel_rfl
theorem sh_read_journal : shapeOf G "read_journal" 1 [] = some [Src.p 0] := by kernel_rfl
theorem fn__law_is_kept : G.fn "_law_is_kept" = some sp__law_is_kept := by kernel_rfl
theorem sh__law_is_kept : shapeOf G "_law_is_kept" 2 [] = some [Src.p 0, Src.p 1] := by kernel_rfl
theorem fn__law_right : G.fn "_law_right" = some sp__law_right := by kernel_rfl
theorem sh__law_right : shapeOf G "_law_right" 1 [] = some [Src.p 0] := by kernel_rfl
theorem gl_ASK : G.gl "ASK" = some (PyData.tuple [PyData.str "ask"]) := by kernel_rfl
theorem gl_DIGITS : G.gl "DIGITS" = some (PyData.str "0123456789") := by kernel_rfl
theorem gl_LETTERS : G.gl "LETTERS" = some (PyData.str "abcdefghijklmnopqrstuvwxyz") := by kernel_rfl
theorem gl_MOST_DIGITS : G.gl "MOST_DIGITS" = some (PyData.int 12) := by kernel_rfl
theorem gl_MOST_LETTERS : G.gl "MOST_LETTERS" = some (PyData.int 12) := by kernel_rfl
theorem gl_MOST_LINKS : G.gl "MOST_LINKS" = some (PyData.int 6) := by kernel_rfl
theorem gl_MOST_MARK : G.gl "MOST_MARK" = some (PyData.int 999999) := by kernel_rfl
theorem gl_MOST_MOMENT : G.gl "MOST_MOMENT" = some (PyData.int 999999999999) := by kernel_rfl
theorem gl_MOST_SIGNS : G.gl "MOST_SIGNS" = some (PyData.int 40) := by kernel_rfl
theorem gl_SEALS : G.gl "SEALS" = some (PyData.int 999983) := by kernel_rfl
theorem gl_SIGNS : G.gl "SIGNS" = some (PyData.str "-./0123456789_abcdefghijklmnopqrstuvwxyz") := by kernel_rfl
end K47

namespace K47
open PySem L2 PyProof.Rows FR
abbrev EdK (kd : KD) : Ed := { nx := fun _ => kd .none, rt := kd, rf := fun xs => kd (.list xs) }
theorem line_le {n : Nat} (h : n ≤ 16777216) : n ≤ sizeLine := by rw [sizeLine_eq]; exact h
theorem tyI (a : String) : ["int"].any (tyIs a) = tyIs a "int" := Bool.or_false _
def hdC : CB → CS
  | .cons s _ => s
  | .nil => .pass
def tlC : CB → CB
  | .cons _ r => r
  | .nil => .nil
theorem tpn_inj {xs ys : List FR.D} : (FR.tupN xs = FR.tupN ys) ↔ xs = ys := r_tpn
def forC : CS → CB
  | .for_ _ _ b => b
  | _ => .nil
def LT : TX := [97, 98, 99, 100, 101, 102, 103, 104, 105, 106, 107, 108, 109, 110, 111, 112, 113, 114, 115, 116, 117, 118, 119, 120, 121, 122]
def SG : TX := [45, 46, 47, 48, 49, 50, 51, 52, 53, 54, 55, 56, 57, 95, 97, 98, 99, 100, 101, 102, 103, 104, 105, 106, 107, 108, 109, 110, 111, 112, 113, 114, 115, 116, 117, 118, 119, 120, 121, 122]
theorem lt_s : ("abcdefghijklmnopqrstuvwxyz" : Str) = mk LT := by kernel_rfl
theorem sg_s : ("-./0123456789_abcdefghijklmnopqrstuvwxyz" : Str) = mk SG := by kernel_rfl
theorem dg_s : ("0123456789" : Str) = mk [48, 49, 50, 51, 52, 53, 54, 55, 56, 57] := by kernel_rfl
theorem sl_s : ("/" : Str) = mk [47] := by kernel_rfl
theorem sp_s : (" " : Str) = mk [32] := by kernel_rfl
theorem nl_s : ("\n" : Str) = mk [10] := by kernel_rfl
theorem no_s : ("" : Str) = mk [] := by kernel_rfl
theorem ze_s : ("0" : Str) = mk [48] := by kernel_rfl
theorem lt_mem {c : Nat} (h : 97 ≤ c ∧ c ≤ 122) : c ∈ LT := by
  have : ∀ k, k < 26 → 97 + k ∈ LT := by decide
  have := this (c - 97) (by omega)
  rwa [show 97 + (c - 97) = c by omega] at this
theorem sg_mem {c : Nat} (h : sgn c = true) : c ∈ SG := by
  have : ∀ k, k < 123 → sgn k = true → k ∈ SG := by decide
  refine this c ?_ h
  unfold sgn at h
  simp only [Bool.or_eq_true, Bool.and_eq_true, decide_eq_true_eq] at h
  omega
theorem dg_mem {c : Nat} (h : 48 ≤ c ∧ c ≤ 57) : c ∈ [48, 49, 50, 51, 52, 53, 54, 55, 56, 57] := by
  have : ∀ k, k < 10 → 48 + k ∈ [48, 49, 50, 51, 52, 53, 54, 55, 56, 57] := by decide
  have := this (c - 48) (by omega)
  rwa [show 48 + (c - 48) = c by omega] at this
def WTrue (n : Nat) (acc : List FR.D) : Prop := acc = (List.replicate n true).map PyData.bool
theorem WTrue.snoc {n : Nat} {acc : List FR.D} (h : WTrue n acc) : WTrue (n + 1) (acc ++ [.bool true]) := by
  unfold WTrue at h ⊢
  rw [h, List.replicate_succ', List.map_append]
  rfl
theorem WTrue.fin {n : Nat} {acc : List FR.D} (h : WTrue n acc) : ∃ bs : List Bool, acc = bs.map PyData.bool ∧ bs.all id = true := ⟨_, h, by rw [List.all_replicate]; split <;> rfl⟩
/-- a sign of a text -/
theorem sign_at {l : TX} {i : Nat} {d : FR.D} (h : (l.map fun c => PyData.str ⟨#[c]⟩)[i]? = some d) : ∃ c, l[i]? = some c ∧ d = .str ⟨#[c]⟩ := by
  rw [List.getElem?_map] at h
  cases e : l[i]? with
  | none => rw [e] at h; cases h
  | some c => rw [e] at h; cases h; exact ⟨c, rfl, rfl⟩
theorem if_and {p q : Prop} [Decidable p] [Decidable q] {k : D → Prop} (h : k (.bool (decide (p ∧ q)))) : if decide p = true then k (.bool (decide q)) else k (.bool false) := by
  by_cases hp : p
  · rw [if_pos (decide_eq_true hp)]
    have : decide (p ∧ q) = decide q := decide_eq_decide.mpr ⟨fun z => z.2, fun z => ⟨hp, z⟩⟩
    rwa [this] at h
  · rw [if_neg (by simpa using hp)]
    have : decide (p ∧ q) = false := decide_eq_false fun z => hp z.1
    rwa [this] at h
theorem law_is_whole : ∀ ds kd er, ds.length = 1 → sp_is_whole ds kd er → wb G er cb_is_whole (EdK kd) (startD N_is_whole ds) := by
  rintro ds kd er - ⟨i, rfl, hk⟩
  show wb G er cb_is_whole (EdK kd) [.d (.int i)]
  unfold cb_is_whole
  simp only [wb, ws, rd, rq, rg, rl, rp, ri, rn, tgt, setAll, wipeL, Lit.d, Src.dat, List.set_cons_zero, List.set_cons_succ, List.getElem?_cons_zero, List.getElem?_cons_succ, List.map_cons, List.map_nil, List.cons_append, List.nil_append, List.append_nil, List.length_cons, List.length_nil, if_true, Bool.false_eq_true, if_false, Option.some.injEq, PyData.int.injEq, PyData.list.injEq, PyData.str.injEq, PyData.bool.injEq, PyData.tuple.injEq, Sl.m.injEq, Sl.l.injEq, Sl.d.injEq, exists_eq_left', exists_eq_left, true_and, r_sS, r_sl, r_sD, r_add, r_adds, r_addl, r_addt, r_sub, r_mul, r_mull, r_mod, r_fdiv, r_pow, r_lt, r_le, r_gt, r_ge, r_eq, r_eqs, r_eqb, r_ne, r_nes, r_neb, r_isN, r_notN, r_tb, r_ti, r_tl, r_tt, r_tn, r_lenl, r_lent, r_lens, r_lenc, r_int, r_intb, r_abs, r_max, r_min, r_tuple, r_tuplet, r_list, r_listt, r_repr, r_str, r_strs, r_all, r_any, r_idxl, r_idxt, r_idxs, r_idxc, r_slcl, r_slct, r_slcs, r_slcc, r_iteml, r_itemt, r_items, r_call, r_in_s, r_key, r_keys, r_count, r_str_ex, r_in_l, r_in_t, Nat.zero_add, Nat.reduceAdd, List.getD_cons_zero, List.getD_cons_succ, r_count, and_true, exists_const, List.length_map, fn_is_name, sh_is_name, fn_is_path, sh_is_path, fn_is_whole, sh_is_whole, fn_is_tuple_up_to, sh_is_tuple_up_to, fn_text_of, sh_text_of, fn_is_numeral, sh_is_numeral, fn_seal_in, sh_seal_in, fn__law_well, sh__law_well, fn__law_take, sh__law_take, fn__law_line, sh__law_line, fn__law_seal, sh__law_seal, fn__law_left, sh__law_left, fn_is_between, sh_is_between, fn_is_short_path, sh_is_short_path, fn_words_behind, sh_words_behind, fn__law_one, sh__law_one, fn__law_sealed, sh__law_sealed, fn_is_address, sh_is_address, fn_check_number, sh_check_number, fn_is_moment, sh_is_moment, fn_line_of, sh_line_of, fn__law_name, sh__law_name, fn__law_path, sh__law_path, fn__law_answer, sh__law_answer, fn__law_deeds, sh__law_deeds, fn_address_in, sh_address_in, fn_are_links, sh_are_links, fn_journal_line, sh_journal_line, fn_is_deed, sh_is_deed, fn__law_spots, sh__law_spots, fn__law_loose_rows, sh__law_loose_rows, fn_is_some_answer, sh_is_some_answer, fn_behind, sh_behind, sh_behind_1, sh_behind_2, sh_behind_3, fn_answer_of, sh_answer_of, fn_is_some_event, sh_is_some_event, fn_event_of, sh_event_of, fn_is_some_row, sh_is_some_row, fn_check_log, sh_check_log, fn_row_in, sh_row_in, fn_row_at, sh_row_at, fn_deeds_of, sh_deeds_of, sh_deeds_of_1, fn_read_journal, sh_read_journal, fn__law_is_kept, sh__law_is_kept, fn__law_right, sh__law_right, gl_ASK, gl_LETTERS, gl_SIGNS, gl_MOST_LETTERS, gl_MOST_SIGNS, gl_MOST_MOMENT, gl_MOST_MARK, gl_MOST_LINKS, gl_MOST_DIGITS, gl_DIGITS, gl_SEALS, ra, setSl, frzS, isiD, hdC, tlC, forC, rf, r_fmts, r_fmti, r_part, r_rpart, r_split, r_join, exists_eq']
  exact hk
theorem law_is_tuple_up_to : ∀ ds kd er, ds.length = 3 → sp_is_tuple_up_to ds kd er → wb G er cb_is_tuple_up_to (EdK kd) (startD N_is_tuple_up_to ds) := by
  rintro ds kd er - ⟨xs, lo, hi, rfl, hk⟩
  show wb G er cb_is_tuple_up_to (EdK kd) [.d (.tuple xs), .d (.int lo), .d (.int hi)]
  unfold cb_is_tuple_up_to
  simp only [wb, ws, rd, rq, rg, rl, rp, ri, rn, tgt, setAll, wipeL, Lit.d, Src.dat, List.set_cons_zero, List.set_cons_succ, List.getElem?_cons_zero, List.getElem?_cons_succ, List.map_cons, List.map_nil, List.cons_append, List.nil_append, List.append_nil, List.length_cons, List.length_nil, if_true, Bool.false_eq_true, if_false, Option.some.injEq, PyData.int.injEq, PyData.list.injEq, PyData.str.injEq, PyData.bool.injEq, PyData.tuple.injEq, Sl.m.injEq, Sl.l.injEq, Sl.d.injEq, exists_eq_left', exists_eq_left, true_and, r_sS, r_sl, r_sD, r_add, r_adds, r_addl, r_addt, r_sub, r_mul, r_mull, r_mod, r_fdiv, r_pow, r_lt, r_le, r_gt, r_ge, r_eq, r_eqs, r_eqb, r_ne, r_nes, r_neb, r_isN, r_notN, r_tb, r_ti, r_tl, r_tt, r_tn, r_lenl, r_lent, r_lens, r_lenc, r_int, r_intb, r_abs, r_max, r_min, r_tuple, r_tuplet, r_list, r_listt, r_repr, r_str, r_strs, r_all, r_any, r_idxl, r_idxt, r_idxs, r_idxc, r_slcl, r_slct, r_slcs, r_slcc, r_iteml, r_itemt, r_items, r_call, r_in_s, r_key, r_keys, r_count, r_str_ex, r_in_l, r_in_t, Nat.zero_add, Nat.reduceAdd, List.getD_cons_zero, List.getD_cons_succ, r_count, and_true, exists_const, List.length_map, fn_is_name, sh_is_name, fn_is_path, sh_is_path, fn_is_whole, sh_is_whole, fn_is_tuple_up_to, sh_is_tuple_up_to, fn_text_of, sh_text_of, fn_is_numeral, sh_is_numeral, fn_seal_in, sh_seal_in, fn__law_well, sh__law_well, fn__law_take, sh__law_take, fn__law_line, sh__law_line, fn__law_seal, sh__law_seal, fn__law_left, sh__law_left, fn_is_between, sh_is_between, fn_is_short_path, sh_is_short_path, fn_words_behind, sh_words_behind, fn__law_one, sh__law_one, fn__law_sealed, sh__law_sealed, fn_is_address, sh_is_address, fn_check_number, sh_check_number, fn_is_moment, sh_is_moment, fn_line_of, sh_line_of, fn__law_name, sh__law_name, fn__law_path, sh__law_path, fn__law_answer, sh__law_answer, fn__law_deeds, sh__law_deeds, fn_address_in, sh_address_in, fn_are_links, sh_are_links, fn_journal_line, sh_journal_line, fn_is_deed, sh_is_deed, fn__law_spots, sh__law_spots, fn__law_loose_rows, sh__law_loose_rows, fn_is_some_answer, sh_is_some_answer, fn_behind, sh_behind, sh_behind_1, sh_behind_2, sh_behind_3, fn_answer_of, sh_answer_of, fn_is_some_event, sh_is_some_event, fn_event_of, sh_event_of, fn_is_some_row, sh_is_some_row, fn_check_log, sh_check_log, fn_row_in, sh_row_in, fn_row_at, sh_row_at, fn_deeds_of, sh_deeds_of, sh_deeds_of_1, fn_read_journal, sh_read_journal, fn__law_is_kept, sh__law_is_kept, fn__law_right, sh__law_right, gl_ASK, gl_LETTERS, gl_SIGNS, gl_MOST_LETTERS, gl_MOST_SIGNS, gl_MOST_MOMENT, gl_MOST_MARK, gl_MOST_LINKS, gl_MOST_DIGITS, gl_DIGITS, gl_SEALS, ra, setSl, frzS, isiD, hdC, tlC, forC, rf, r_fmts, r_fmti, r_part, r_rpart, r_split, r_join, exists_eq']
  exact if_and hk
theorem law_is_between : ∀ ds kd er, ds.length = 3 → sp_is_between ds kd er → wb G er cb_is_between (EdK kd) (startD N_is_between ds) := by
  rintro ds kd er - ⟨i, lo, hi, rfl, hk⟩
  show wb G er cb_is_between (EdK kd) [.d (.int i), .d (.int lo), .d (.int hi)]
  unfold cb_is_between
  simp only [wb, ws, rd, rq, rg, rl, rp, ri, rn, tgt, setAll, wipeL, Lit.d, Src.dat, List.set_cons_zero, List.set_cons_succ, List.getElem?_cons_zero, List.getElem?_cons_succ, List.map_cons, List.map_nil, List.cons_append, List.nil_append, List.append_nil, List.length_cons, List.length_nil, if_true, Bool.false_eq_true, if_false, Option.some.injEq, PyData.int.injEq, PyData.list.injEq, PyData.str.injEq, PyData.bool.injEq, PyData.tuple.injEq, Sl.m.injEq, Sl.l.injEq, Sl.d.injEq, exists_eq_left', exists_eq_left, true_and, r_sS, r_sl, r_sD, r_add, r_adds, r_addl, r_addt, r_sub, r_mul, r_mull, r_mod, r_fdiv, r_pow, r_lt, r_le, r_gt, r_ge, r_eq, r_eqs, r_eqb, r_ne, r_nes, r_neb, r_isN, r_notN, r_tb, r_ti, r_tl, r_tt, r_tn, r_lenl, r_lent, r_lens, r_lenc, r_int, r_intb, r_abs, r_max, r_min, r_tuple, r_tuplet, r_list, r_listt, r_repr, r_str, r_strs, r_all, r_any, r_idxl, r_idxt, r_idxs, r_idxc, r_slcl, r_slct, r_slcs, r_slcc, r_iteml, r_itemt, r_items, r_call, r_in_s, r_key, r_keys, r_count, r_str_ex, r_in_l, r_in_t, Nat.zero_add, Nat.reduceAdd, List.getD_cons_zero, List.getD_cons_succ, r_count, and_true, exists_const, List.length_map, fn_is_name, sh_is_name, fn_is_path, sh_is_path, fn_is_whole, sh_is_whole, fn_is_tuple_up_to, sh_is_tuple_up_to, fn_text_of, sh_text_of, fn_is_numeral, sh_is_numeral, fn_seal_in, sh_seal_in, fn__law_well, sh__law_well, fn__law_take, sh__law_take, fn__law_line, sh__law_line, fn__law_seal, sh__law_seal, fn__law_left, sh__law_left, fn_is_between, sh_is_between, fn_is_short_path, sh_is_short_path, fn_words_behind, sh_words_behind, fn__law_one, sh__law_one, fn__law_sealed, sh__law_sealed, fn_is_address, sh_is_address, fn_check_number, sh_check_number, fn_is_moment, sh_is_moment, fn_line_of, sh_line_of, fn__law_name, sh__law_name, fn__law_path, sh__law_path, fn__law_answer, sh__law_answer, fn__law_deeds, sh__law_deeds, fn_address_in, sh_address_in, fn_are_links, sh_are_links, fn_journal_line, sh_journal_line, fn_is_deed, sh_is_deed, fn__law_spots, sh__law_spots, fn__law_loose_rows, sh__law_loose_rows, fn_is_some_answer, sh_is_some_answer, fn_behind, sh_behind, sh_behind_1, sh_behind_2, sh_behind_3, fn_answer_of, sh_answer_of, fn_is_some_event, sh_is_some_event, fn_event_of, sh_event_of, fn_is_some_row, sh_is_some_row, fn_check_log, sh_check_log, fn_row_in, sh_row_in, fn_row_at, sh_row_at, fn_deeds_of, sh_deeds_of, sh_deeds_of_1, fn_read_journal, sh_read_journal, fn__law_is_kept, sh__law_is_kept, fn__law_right, sh__law_right, gl_ASK, gl_LETTERS, gl_SIGNS, gl_MOST_LETTERS, gl_MOST_SIGNS, gl_MOST_MOMENT, gl_MOST_MARK, gl_MOST_LINKS, gl_MOST_DIGITS, gl_DIGITS, gl_SEALS, ra, setSl, frzS, isiD, hdC, tlC, forC, rf, r_fmts, r_fmti, r_part, r_rpart, r_split, r_join, exists_eq']
  exact ⟨i, rfl, true, rfl, if_and hk⟩
theorem ty_str {l : TX} : ["str"].any (tyIs (tyNm (stD l))) = true := rfl
theorem in_all {S l : TX} {n : Nat} (h : ∀ c ∈ l, c ∈ S) : ∀ (i : Nat) (d : FR.D) (acc : List FR.D), (List.map (fun c => PyData.str ⟨#[c]⟩) l)[i]? = some d → WTrue i acc → acc.length ≤ i → cmpC CO.mem d (PyData.str (mk S)) fun x => WTrue (i + 1) (acc ++ [x]) := by
  rintro i d acc hd hw -
  obtain ⟨c, hc, rfl⟩ := sign_at hd
  rw [r_in_s, decide_eq_true (show c ∈ (mk S).cps.toList from h c (List.mem_of_getElem? hc))]
  exact hw.snoc
theorem law_is_name : ∀ ds kd er, ds.length = 1 → sp_is_name ds kd er → wb G er cb_is_name (EdK kd) (startD N_is_name ds) := by
  rintro ds kd er - ⟨l, rfl, ⟨h1, h2, h3⟩, hk⟩
  show wb G er cb_is_name (EdK kd) [.d (stD l), .no]
  unfold cb_is_name
  simp only [wb, ws, rd, rq, rg, rl, rp, ri, rn, tgt, setAll, wipeL, Lit.d, Src.dat, List.set_cons_zero, List.set_cons_succ, List.getElem?_cons_zero, List.getElem?_cons_succ, List.map_cons, List.map_nil, List.cons_append, List.nil_append, List.append_nil, List.length_cons, List.length_nil, if_true, Bool.false_eq_true, if_false, Option.some.injEq, PyData.int.injEq, PyData.list.injEq, PyData.str.injEq, PyData.bool.injEq, PyData.tuple.injEq, Sl.m.injEq, Sl.l.injEq, Sl.d.injEq, exists_eq_left', exists_eq_left, true_and, r_sS, r_sl, r_sD, r_add, r_adds, r_addl, r_addt, r_sub, r_mul, r_mull, r_mod, r_fdiv, r_pow, r_lt, r_le, r_gt, r_ge, r_eq, r_eqs, r_eqb, r_ne, r_nes, r_neb, r_isN, r_notN, r_tb, r_ti, r_tl, r_tt, r_tn, r_lenl, r_lent, r_lens, r_lenc, r_int, r_intb, r_abs, r_max, r_min, r_tuple, r_tuplet, r_list, r_listt, r_repr, r_str, r_strs, r_all, r_any, r_idxl, r_idxt, r_idxs, r_idxc, r_slcl, r_slct, r_slcs, r_slcc, r_iteml, r_itemt, r_items, r_call, r_in_s, r_key, r_keys, r_count, r_str_ex, r_in_l, r_in_t, Nat.zero_add, Nat.reduceAdd, List.getD_cons_zero, List.getD_cons_succ, r_count, and_true, exists_const, List.length_map, fn_is_name, sh_is_name, fn_is_path, sh_is_path, fn_is_whole, sh_is_whole, fn_is_tuple_up_to, sh_is_tuple_up_to, fn_text_of, sh_text_of, fn_is_numeral, sh_is_numeral, fn_seal_in, sh_seal_in, fn__law_well, sh__law_well, fn__law_take, sh__law_take, fn__law_line, sh__law_line, fn__law_seal, sh__law_seal, fn__law_left, sh__law_left, fn_is_between, sh_is_between, fn_is_short_path, sh_is_short_path, fn_words_behind, sh_words_behind, fn__law_one, sh__law_one, fn__law_sealed, sh__law_sealed, fn_is_address, sh_is_address, fn_check_number, sh_check_number, fn_is_moment, sh_is_moment, fn_line_of, sh_line_of, fn__law_name, sh__law_name, fn__law_path, sh__law_path, fn__law_answer, sh__law_answer, fn__law_deeds, sh__law_deeds, fn_address_in, sh_address_in, fn_are_links, sh_are_links, fn_journal_line, sh_journal_line, fn_is_deed, sh_is_deed, fn__law_spots, sh__law_spots, fn__law_loose_rows, sh__law_loose_rows, fn_is_some_answer, sh_is_some_answer, fn_behind, sh_behind, sh_behind_1, sh_behind_2, sh_behind_3, fn_answer_of, sh_answer_of, fn_is_some_event, sh_is_some_event, fn_event_of, sh_event_of, fn_is_some_row, sh_is_some_row, fn_check_log, sh_check_log, fn_row_in, sh_row_in, fn_row_at, sh_row_at, fn_deeds_of, sh_deeds_of, sh_deeds_of_1, fn_read_journal, sh_read_journal, fn__law_is_kept, sh__law_is_kept, fn__law_right, sh__law_right, gl_ASK, gl_LETTERS, gl_SIGNS, gl_MOST_LETTERS, gl_MOST_SIGNS, gl_MOST_MOMENT, gl_MOST_MARK, gl_MOST_LINKS, gl_MOST_DIGITS, gl_DIGITS, gl_SEALS, ra, setSl, frzS, isiD, hdC, tlC, forC, rf, r_fmts, r_fmti, r_part, r_rpart, r_split, r_join, exists_eq']
  rw [ty_str, Bool.not_true, if_neg Bool.false_ne_true]
  refine ⟨line_le (show l.length ≤ _ by omega), ?_⟩
  rw [decide_eq_true (show (1 : Int) ≤ ((mk l).length : Nat) by show (1 : Int) ≤ (l.length : Nat); omega), if_pos rfl, decide_eq_true (show ((mk l).length : Int) ≤ 12 by show (l.length : Int) ≤ 12; omega), Bool.not_true, if_neg Bool.false_ne_true, lt_s]
  exact ⟨by omega, WTrue, rfl, in_all (n := 0) fun c hc => lt_mem (h3 c hc), fun acc hw => let ⟨bs, e, h⟩ := hw.fin; ⟨bs, e, by rw [h]; exact hk⟩⟩
theorem law_is_path : ∀ ds kd er, ds.length = 1 → sp_is_path ds kd er → wb G er cb_is_path (EdK kd) (startD N_is_path ds) := by
  rintro ds kd er - ⟨l, rfl, ⟨h1, h2, h3⟩, hk⟩
  show wb G er cb_is_path (EdK kd) [.d (stD l), .no]
  unfold cb_is_path
  simp only [wb, ws, rd, rq, rg, rl, rp, ri, rn, tgt, setAll, wipeL, Lit.d, Src.dat, List.set_cons_zero, List.set_cons_succ, List.getElem?_cons_zero, List.getElem?_cons_succ, List.map_cons, List.map_nil, List.cons_append, List.nil_append, List.append_nil, List.length_cons, List.length_nil, if_true, Bool.false_eq_true, if_false, Option.some.injEq, PyData.int.injEq, PyData.list.injEq, PyData.str.injEq, PyData.bool.injEq, PyData.tuple.injEq, Sl.m.injEq, Sl.l.injEq, Sl.d.injEq, exists_eq_left', exists_eq_left, true_and, r_sS, r_sl, r_sD, r_add, r_adds, r_addl, r_addt, r_sub, r_mul, r_mull, r_mod, r_fdiv, r_pow, r_lt, r_le, r_gt, r_ge, r_eq, r_eqs, r_eqb, r_ne, r_nes, r_neb, r_isN, r_notN, r_tb, r_ti, r_tl, r_tt, r_tn, r_lenl, r_lent, r_lens, r_lenc, r_int, r_intb, r_abs, r_max, r_min, r_tuple, r_tuplet, r_list, r_listt, r_repr, r_str, r_strs, r_all, r_any, r_idxl, r_idxt, r_idxs, r_idxc, r_slcl, r_slct, r_slcs, r_slcc, r_iteml, r_itemt, r_items, r_call, r_in_s, r_key, r_keys, r_count, r_str_ex, r_in_l, r_in_t, Nat.zero_add, Nat.reduceAdd, List.getD_cons_zero, List.getD_cons_succ, r_count, and_true, exists_const, List.length_map, fn_is_name, sh_is_name, fn_is_path, sh_is_path, fn_is_whole, sh_is_whole, fn_is_tuple_up_to, sh_is_tuple_up_to, fn_text_of, sh_text_of, fn_is_numeral, sh_is_numeral, fn_seal_in, sh_seal_in, fn__law_well, sh__law_well, fn__law_take, sh__law_take, fn__law_line, sh__law_line, fn__law_seal, sh__law_seal, fn__law_left, sh__law_left, fn_is_between, sh_is_between, fn_is_short_path, sh_is_short_path, fn_words_behind, sh_words_behind, fn__law_one, sh__law_one, fn__law_sealed, sh__law_sealed, fn_is_address, sh_is_address, fn_check_number, sh_check_number, fn_is_moment, sh_is_moment, fn_line_of, sh_line_of, fn__law_name, sh__law_name, fn__law_path, sh__law_path, fn__law_answer, sh__law_answer, fn__law_deeds, sh__law_deeds, fn_address_in, sh_address_in, fn_are_links, sh_are_links, fn_journal_line, sh_journal_line, fn_is_deed, sh_is_deed, fn__law_spots, sh__law_spots, fn__law_loose_rows, sh__law_loose_rows, fn_is_some_answer, sh_is_some_answer, fn_behind, sh_behind, sh_behind_1, sh_behind_2, sh_behind_3, fn_answer_of, sh_answer_of, fn_is_some_event, sh_is_some_event, fn_event_of, sh_event_of, fn_is_some_row, sh_is_some_row, fn_check_log, sh_check_log, fn_row_in, sh_row_in, fn_row_at, sh_row_at, fn_deeds_of, sh_deeds_of, sh_deeds_of_1, fn_read_journal, sh_read_journal, fn__law_is_kept, sh__law_is_kept, fn__law_right, sh__law_right, gl_ASK, gl_LETTERS, gl_SIGNS, gl_MOST_LETTERS, gl_MOST_SIGNS, gl_MOST_MOMENT, gl_MOST_MARK, gl_MOST_LINKS, gl_MOST_DIGITS, gl_DIGITS, gl_SEALS, ra, setSl, frzS, isiD, hdC, tlC, forC, rf, r_fmts, r_fmti, r_part, r_rpart, r_split, r_join, exists_eq']
  rw [ty_str, Bool.not_true, if_neg Bool.false_ne_true]
  refine ⟨line_le (show l.length ≤ _ by omega), ?_⟩
  have e : cutS (mk l) none (some 1) = mk [47] := by
    rw [mk_cut, show (some (1 : Int)) = some ((1 : Nat) : Int) from rfl, cutL_to]
    cases l with
    | nil => cases h1
    | cons c r => cases h1; rfl
  rw [e, sl_s, decide_eq_true rfl, Bool.not_true, if_neg Bool.false_ne_true, sg_s]
  exact ⟨by omega, WTrue, rfl, in_all (n := 0) fun c hc => sg_mem (h3 c hc), fun acc hw => let ⟨bs, e, h⟩ := hw.fin; ⟨bs, e, by rw [h]; exact hk⟩⟩
theorem law_is_short_path : ∀ ds kd er, ds.length = 1 → sp_is_short_path ds kd er → wb G er cb_is_short_path (EdK kd) (startD N_is_short_path ds) := by
  rintro ds kd er - ⟨l, rfl, hl, hk⟩
  show wb G er cb_is_short_path (EdK kd) [.d (stD l)]
  unfold cb_is_short_path
  simp only [wb, ws, rd, rq, rg, rl, rp, ri, rn, tgt, setAll, wipeL, Lit.d, Src.dat, List.set_cons_zero, List.set_cons_succ, List.getElem?_cons_zero, List.getElem?_cons_succ, List.map_cons, List.map_nil, List.cons_append, List.nil_append, List.append_nil, List.length_cons, List.length_nil, if_true, Bool.false_eq_true, if_false, Option.some.injEq, PyData.int.injEq, PyData.list.injEq, PyData.str.injEq, PyData.bool.injEq, PyData.tuple.injEq, Sl.m.injEq, Sl.l.injEq, Sl.d.injEq, exists_eq_left', exists_eq_left, true_and, r_sS, r_sl, r_sD, r_add, r_adds, r_addl, r_addt, r_sub, r_mul, r_mull, r_mod, r_fdiv, r_pow, r_lt, r_le, r_gt, r_ge, r_eq, r_eqs, r_eqb, r_ne, r_nes, r_neb, r_isN, r_notN, r_tb, r_ti, r_tl, r_tt, r_tn, r_lenl, r_lent, r_lens, r_lenc, r_int, r_intb, r_abs, r_max, r_min, r_tuple, r_tuplet, r_list, r_listt, r_repr, r_str, r_strs, r_all, r_any, r_idxl, r_idxt, r_idxs, r_idxc, r_slcl, r_slct, r_slcs, r_slcc, r_iteml, r_itemt, r_items, r_call, r_in_s, r_key, r_keys, r_count, r_str_ex, r_in_l, r_in_t, Nat.zero_add, Nat.reduceAdd, List.getD_cons_zero, List.getD_cons_succ, r_count, and_true, exists_const, List.length_map, fn_is_name, sh_is_name, fn_is_path, sh_is_path, fn_is_whole, sh_is_whole, fn_is_tuple_up_to, sh_is_tuple_up_to, fn_text_of, sh_text_of, fn_is_numeral, sh_is_numeral, fn_seal_in, sh_seal_in, fn__law_well, sh__law_well, fn__law_take, sh__law_take, fn__law_line, sh__law_line, fn__law_seal, sh__law_seal, fn__law_left, sh__law_left, fn_is_between, sh_is_between, fn_is_short_path, sh_is_short_path, fn_words_behind, sh_words_behind, fn__law_one, sh__law_one, fn__law_sealed, sh__law_sealed, fn_is_address, sh_is_address, fn_check_number, sh_check_number, fn_is_moment, sh_is_moment, fn_line_of, sh_line_of, fn__law_name, sh__law_name, fn__law_path, sh__law_path, fn__law_answer, sh__law_answer, fn__law_deeds, sh__law_deeds, fn_address_in, sh_address_in, fn_are_links, sh_are_links, fn_journal_line, sh_journal_line, fn_is_deed, sh_is_deed, fn__law_spots, sh__law_spots, fn__law_loose_rows, sh__law_loose_rows, fn_is_some_answer, sh_is_some_answer, fn_behind, sh_behind, sh_behind_1, sh_behind_2, sh_behind_3, fn_answer_of, sh_answer_of, fn_is_some_event, sh_is_some_event, fn_event_of, sh_event_of, fn_is_some_row, sh_is_some_row, fn_check_log, sh_check_log, fn_row_in, sh_row_in, fn_row_at, sh_row_at, fn_deeds_of, sh_deeds_of, sh_deeds_of_1, fn_read_journal, sh_read_journal, fn__law_is_kept, sh__law_is_kept, fn__law_right, sh__law_right, gl_ASK, gl_LETTERS, gl_SIGNS, gl_MOST_LETTERS, gl_MOST_SIGNS, gl_MOST_MOMENT, gl_MOST_MARK, gl_MOST_LINKS, gl_MOST_DIGITS, gl_DIGITS, gl_SEALS, ra, setSl, frzS, isiD, hdC, tlC, forC, rf, r_fmts, r_fmti, r_part, r_rpart, r_split, r_join, exists_eq']
  refine ⟨l, rfl, hl, true, rfl, ?_⟩
  rw [if_pos rfl]
  have h2 := hl.2.1
  refine ⟨line_le (show l.length ≤ _ by omega), ?_⟩
  rw [decide_eq_true (show ((mk l).length : Int) ≤ 40 by show (l.length : Int) ≤ 40; omega)]
  exact hk
theorem AdOk.nameOk {a : Ad} (h : AdOk a) : nameOk a.1 := ⟨h.n0, h.n1, h.nm⟩
theorem AdOk.pathOk {a : Ad} (h : AdOk a) : pathOk a.2 := ⟨h.p0, h.p1, h.pt⟩
theorem law_is_address : ∀ ds kd er, ds.length = 1 → sp_is_address ds kd er → wb G er cb_is_address (EdK kd) (startD N_is_address ds) := by
  rintro ds kd er - ⟨a, rfl, ha, hk⟩
  show wb G er cb_is_address (EdK kd) [.d (.tuple [stD a.1, stD a.2])]
  unfold cb_is_address
  simp only [wb, ws, rd, rq, rg, rl, rp, ri, rn, tgt, setAll, wipeL, Lit.d, Src.dat, List.set_cons_zero, List.set_cons_succ, List.getElem?_cons_zero, List.getElem?_cons_succ, List.map_cons, List.map_nil, List.cons_append, List.nil_append, List.append_nil, List.length_cons, List.length_nil, if_true, Bool.false_eq_true, if_false, Option.some.injEq, PyData.int.injEq, PyData.list.injEq, PyData.str.injEq, PyData.bool.injEq, PyData.tuple.injEq, Sl.m.injEq, Sl.l.injEq, Sl.d.injEq, exists_eq_left', exists_eq_left, true_and, r_sS, r_sl, r_sD, r_add, r_adds, r_addl, r_addt, r_sub, r_mul, r_mull, r_mod, r_fdiv, r_pow, r_lt, r_le, r_gt, r_ge, r_eq, r_eqs, r_eqb, r_ne, r_nes, r_neb, r_isN, r_notN, r_tb, r_ti, r_tl, r_tt, r_tn, r_lenl, r_lent, r_lens, r_lenc, r_int, r_intb, r_abs, r_max, r_min, r_tuple, r_tuplet, r_list, r_listt, r_repr, r_str, r_strs, r_all, r_any, r_idxl, r_idxt, r_idxs, r_idxc, r_slcl, r_slct, r_slcs, r_slcc, r_iteml, r_itemt, r_items, r_call, r_in_s, r_key, r_keys, r_count, r_str_ex, r_in_l, r_in_t, Nat.zero_add, Nat.reduceAdd, List.getD_cons_zero, List.getD_cons_succ, r_count, and_true, exists_const, List.length_map, fn_is_name, sh_is_name, fn_is_path, sh_is_path, fn_is_whole, sh_is_whole, fn_is_tuple_up_to, sh_is_tuple_up_to, fn_text_of, sh_text_of, fn_is_numeral, sh_is_numeral, fn_seal_in, sh_seal_in, fn__law_well, sh__law_well, fn__law_take, sh__law_take, fn__law_line, sh__law_line, fn__law_seal, sh__law_seal, fn__law_left, sh__law_left, fn_is_between, sh_is_between, fn_is_short_path, sh_is_short_path, fn_words_behind, sh_words_behind, fn__law_one, sh__law_one, fn__law_sealed, sh__law_sealed, fn_is_address, sh_is_address, fn_check_number, sh_check_number, fn_is_moment, sh_is_moment, fn_line_of, sh_line_of, fn__law_name, sh__law_name, fn__law_path, sh__law_path, fn__law_answer, sh__law_answer, fn__law_deeds, sh__law_deeds, fn_address_in, sh_address_in, fn_are_links, sh_are_links, fn_journal_line, sh_journal_line, fn_is_deed, sh_is_deed, fn__law_spots, sh__law_spots, fn__law_loose_rows, sh__law_loose_rows, fn_is_some_answer, sh_is_some_answer, fn_behind, sh_behind, sh_behind_1, sh_behind_2, sh_behind_3, fn_answer_of, sh_answer_of, fn_is_some_event, sh_is_some_event, fn_event_of, sh_event_of, fn_is_some_row, sh_is_some_row, fn_check_log, sh_check_log, fn_row_in, sh_row_in, fn_row_at, sh_row_at, fn_deeds_of, sh_deeds_of, sh_deeds_of_1, fn_read_journal, sh_read_journal, fn__law_is_kept, sh__law_is_kept, fn__law_right, sh__law_right, gl_ASK, gl_LETTERS, gl_SIGNS, gl_MOST_LETTERS, gl_MOST_SIGNS, gl_MOST_MOMENT, gl_MOST_MARK, gl_MOST_LINKS, gl_MOST_DIGITS, gl_DIGITS, gl_SEALS, ra, setSl, frzS, isiD, hdC, tlC, forC, rf, r_fmts, r_fmti, r_part, r_rpart, r_split, r_join, exists_eq']
  refine ⟨_, _, _, rfl, true, rfl, ?_⟩
  rw [if_pos rfl]
  refine ⟨_, rfl, a.1, rfl, AdOk.nameOk ha, true, rfl, ?_⟩
  rw [if_pos rfl]
  exact ⟨_, rfl, a.2, rfl, AdOk.pathOk ha, hk⟩
theorem law_text_of : ∀ ds kd er, ds.length = 1 → sp_text_of ds kd er → wb G er cb_text_of (EdK kd) (startD N_text_of ds) := by
  rintro ds kd er - ⟨a, rfl, ha, hk⟩
  show wb G er cb_text_of (EdK kd) [.d (.tuple [stD a.1, stD a.2])]
  unfold cb_text_of
  simp only [wb, ws, rd, rq, rg, rl, rp, ri, rn, tgt, setAll, wipeL, Lit.d, Src.dat, List.set_cons_zero, List.set_cons_succ, List.getElem?_cons_zero, List.getElem?_cons_succ, List.map_cons, List.map_nil, List.cons_append, List.nil_append, List.append_nil, List.length_cons, List.length_nil, if_true, Bool.false_eq_true, if_false, Option.some.injEq, PyData.int.injEq, PyData.list.injEq, PyData.str.injEq, PyData.bool.injEq, PyData.tuple.injEq, Sl.m.injEq, Sl.l.injEq, Sl.d.injEq, exists_eq_left', exists_eq_left, true_and, r_sS, r_sl, r_sD, r_add, r_adds, r_addl, r_addt, r_sub, r_mul, r_mull, r_mod, r_fdiv, r_pow, r_lt, r_le, r_gt, r_ge, r_eq, r_eqs, r_eqb, r_ne, r_nes, r_neb, r_isN, r_notN, r_tb, r_ti, r_tl, r_tt, r_tn, r_lenl, r_lent, r_lens, r_lenc, r_int, r_intb, r_abs, r_max, r_min, r_tuple, r_tuplet, r_list, r_listt, r_repr, r_str, r_strs, r_all, r_any, r_idxl, r_idxt, r_idxs, r_idxc, r_slcl, r_slct, r_slcs, r_slcc, r_iteml, r_itemt, r_items, r_call, r_in_s, r_key, r_keys, r_count, r_str_ex, r_in_l, r_in_t, Nat.zero_add, Nat.reduceAdd, List.getD_cons_zero, List.getD_cons_succ, r_count, and_true, exists_const, List.length_map, fn_is_name, sh_is_name, fn_is_path, sh_is_path, fn_is_whole, sh_is_whole, fn_is_tuple_up_to, sh_is_tuple_up_to, fn_text_of, sh_text_of, fn_is_numeral, sh_is_numeral, fn_seal_in, sh_seal_in, fn__law_well, sh__law_well, fn__law_take, sh__law_take, fn__law_line, sh__law_line, fn__law_seal, sh__law_seal, fn__law_left, sh__law_left, fn_is_between, sh_is_between, fn_is_short_path, sh_is_short_path, fn_words_behind, sh_words_behind, fn__law_one, sh__law_one, fn__law_sealed, sh__law_sealed, fn_is_address, sh_is_address, fn_check_number, sh_check_number, fn_is_moment, sh_is_moment, fn_line_of, sh_line_of, fn__law_name, sh__law_name, fn__law_path, sh__law_path, fn__law_answer, sh__law_answer, fn__law_deeds, sh__law_deeds, fn_address_in, sh_address_in, fn_are_links, sh_are_links, fn_journal_line, sh_journal_line, fn_is_deed, sh_is_deed, fn__law_spots, sh__law_spots, fn__law_loose_rows, sh__law_loose_rows, fn_is_some_answer, sh_is_some_answer, fn_behind, sh_behind, sh_behind_1, sh_behind_2, sh_behind_3, fn_answer_of, sh_answer_of, fn_is_some_event, sh_is_some_event, fn_event_of, sh_event_of, fn_is_some_row, sh_is_some_row, fn_check_log, sh_check_log, fn_row_in, sh_row_in, fn_row_at, sh_row_at, fn_deeds_of, sh_deeds_of, sh_deeds_of_1, fn_read_journal, sh_read_journal, fn__law_is_kept, sh__law_is_kept, fn__law_right, sh__law_right, gl_ASK, gl_LETTERS, gl_SIGNS, gl_MOST_LETTERS, gl_MOST_SIGNS, gl_MOST_MOMENT, gl_MOST_MARK, gl_MOST_LINKS, gl_MOST_DIGITS, gl_DIGITS, gl_SEALS, ra, setSl, frzS, isiD, hdC, tlC, forC, rf, r_fmts, r_fmti, r_part, r_rpart, r_split, r_join, exists_eq']
  refine ⟨_, rfl, _, rfl, ?_⟩
  have h1 := ha.n1
  have h2 := ha.p1
  refine ⟨line_le (show a.1.length + a.2.length ≤ _ by omega), ?_⟩
  rw [mk_app]
  exact hk
theorem law_are_links : ∀ ds kd er, ds.length = 1 → sp_are_links ds kd er → wb G er cb_are_links (EdK kd) (startD N_are_links ds) := by
  rintro ds kd er - ⟨as, rfl, hl, ha, hk⟩
  show wb G er cb_are_links (EdK kd) [.d (.tuple (as.map adD)), .no]
  unfold cb_are_links
  simp only [wb, ws, rd, rq, rg, rl, rp, ri, rn, tgt, setAll, wipeL, Lit.d, Src.dat, List.set_cons_zero, List.set_cons_succ, List.getElem?_cons_zero, List.getElem?_cons_succ, List.map_cons, List.map_nil, List.cons_append, List.nil_append, List.append_nil, List.length_cons, List.length_nil, if_true, Bool.false_eq_true, if_false, Option.some.injEq, PyData.int.injEq, PyData.list.injEq, PyData.str.injEq, PyData.bool.injEq, PyData.tuple.injEq, Sl.m.injEq, Sl.l.injEq, Sl.d.injEq, exists_eq_left', exists_eq_left, true_and, r_sS, r_sl, r_sD, r_add, r_adds, r_addl, r_addt, r_sub, r_mul, r_mull, r_mod, r_fdiv, r_pow, r_lt, r_le, r_gt, r_ge, r_eq, r_eqs, r_eqb, r_ne, r_nes, r_neb, r_isN, r_notN, r_tb, r_ti, r_tl, r_tt, r_tn, r_lenl, r_lent, r_lens, r_lenc, r_int, r_intb, r_abs, r_max, r_min, r_tuple, r_tuplet, r_list, r_listt, r_repr, r_str, r_strs, r_all, r_any, r_idxl, r_idxt, r_idxs, r_idxc, r_slcl, r_slct, r_slcs, r_slcc, r_iteml, r_itemt, r_items, r_call, r_in_s, r_key, r_keys, r_count, r_str_ex, r_in_l, r_in_t, Nat.zero_add, Nat.reduceAdd, List.getD_cons_zero, List.getD_cons_succ, r_count, and_true, exists_const, List.length_map, fn_is_name, sh_is_name, fn_is_path, sh_is_path, fn_is_whole, sh_is_whole, fn_is_tuple_up_to, sh_is_tuple_up_to, fn_text_of, sh_text_of, fn_is_numeral, sh_is_numeral, fn_seal_in, sh_seal_in, fn__law_well, sh__law_well, fn__law_take, sh__law_take, fn__law_line, sh__law_line, fn__law_seal, sh__law_seal, fn__law_left, sh__law_left, fn_is_between, sh_is_between, fn_is_short_path, sh_is_short_path, fn_words_behind, sh_words_behind, fn__law_one, sh__law_one, fn__law_sealed, sh__law_sealed, fn_is_address, sh_is_address, fn_check_number, sh_check_number, fn_is_moment, sh_is_moment, fn_line_of, sh_line_of, fn__law_name, sh__law_name, fn__law_path, sh__law_path, fn__law_answer, sh__law_answer, fn__law_deeds, sh__law_deeds, fn_address_in, sh_address_in, fn_are_links, sh_are_links, fn_journal_line, sh_journal_line, fn_is_deed, sh_is_deed, fn__law_spots, sh__law_spots, fn__law_loose_rows, sh__law_loose_rows, fn_is_some_answer, sh_is_some_answer, fn_behind, sh_behind, sh_behind_1, sh_behind_2, sh_behind_3, fn_answer_of, sh_answer_of, fn_is_some_event, sh_is_some_event, fn_event_of, sh_event_of, fn_is_some_row, sh_is_some_row, fn_check_log, sh_check_log, fn_row_in, sh_row_in, fn_row_at, sh_row_at, fn_deeds_of, sh_deeds_of, sh_deeds_of_1, fn_read_journal, sh_read_journal, fn__law_is_kept, sh__law_is_kept, fn__law_right, sh__law_right, gl_ASK, gl_LETTERS, gl_SIGNS, gl_MOST_LETTERS, gl_MOST_SIGNS, gl_MOST_MOMENT, gl_MOST_MARK, gl_MOST_LINKS, gl_MOST_DIGITS, gl_DIGITS, gl_SEALS, ra, setSl, frzS, isiD, hdC, tlC, forC, rf, r_fmts, r_fmti, r_part, r_rpart, r_split, r_join, exists_eq']
  refine ⟨_, _, _, rfl, true, by rw [List.length_map, decide_eq_true (by omega)]; rfl, ?_⟩
  rw [if_pos rfl]
  refine ⟨by omega, WTrue, rfl, ?_, fun acc hw => let ⟨bs, e, h⟩ := hw.fin; ⟨bs, e, by rw [h]; exact hk⟩⟩
  rintro i d acc hd hw -
  rw [List.getElem?_map] at hd
  cases e : as[i]? with
  | none => rw [e] at hd; cases hd
  | some a =>
    rw [e] at hd
    cases hd
    exact ⟨a, rfl, ha a (List.mem_of_getElem? e), hw.snoc⟩
theorem law_is_moment : ∀ ds kd er, ds.length = 1 → sp_is_moment ds kd er → wb G er cb_is_moment (EdK kd) (startD N_is_moment ds) := by
  rintro ds kd er - ⟨n, rfl, hn, hk⟩
  show wb G er cb_is_moment (EdK kd) [.d (.int n)]
  unfold cb_is_moment
  simp only [wb, ws, rd, rq, rg, rl, rp, ri, rn, tgt, setAll, wipeL, Lit.d, Src.dat, List.set_cons_zero, List.set_cons_succ, List.getElem?_cons_zero, List.getElem?_cons_succ, List.map_cons, List.map_nil, List.cons_append, List.nil_append, List.append_nil, List.length_cons, List.length_nil, if_true, Bool.false_eq_true, if_false, Option.some.injEq, PyData.int.injEq, PyData.list.injEq, PyData.str.injEq, PyData.bool.injEq, PyData.tuple.injEq, Sl.m.injEq, Sl.l.injEq, Sl.d.injEq, exists_eq_left', exists_eq_left, true_and, r_sS, r_sl, r_sD, r_add, r_adds, r_addl, r_addt, r_sub, r_mul, r_mull, r_mod, r_fdiv, r_pow, r_lt, r_le, r_gt, r_ge, r_eq, r_eqs, r_eqb, r_ne, r_nes, r_neb, r_isN, r_notN, r_tb, r_ti, r_tl, r_tt, r_tn, r_lenl, r_lent, r_lens, r_lenc, r_int, r_intb, r_abs, r_max, r_min, r_tuple, r_tuplet, r_list, r_listt, r_repr, r_str, r_strs, r_all, r_any, r_idxl, r_idxt, r_idxs, r_idxc, r_slcl, r_slct, r_slcs, r_slcc, r_iteml, r_itemt, r_items, r_call, r_in_s, r_key, r_keys, r_count, r_str_ex, r_in_l, r_in_t, Nat.zero_add, Nat.reduceAdd, List.getD_cons_zero, List.getD_cons_succ, r_count, and_true, exists_const, List.length_map, fn_is_name, sh_is_name, fn_is_path, sh_is_path, fn_is_whole, sh_is_whole, fn_is_tuple_up_to, sh_is_tuple_up_to, fn_text_of, sh_text_of, fn_is_numeral, sh_is_numeral, fn_seal_in, sh_seal_in, fn__law_well, sh__law_well, fn__law_take, sh__law_take, fn__law_line, sh__law_line, fn__law_seal, sh__law_seal, fn__law_left, sh__law_left, fn_is_between, sh_is_between, fn_is_short_path, sh_is_short_path, fn_words_behind, sh_words_behind, fn__law_one, sh__law_one, fn__law_sealed, sh__law_sealed, fn_is_address, sh_is_address, fn_check_number, sh_check_number, fn_is_moment, sh_is_moment, fn_line_of, sh_line_of, fn__law_name, sh__law_name, fn__law_path, sh__law_path, fn__law_answer, sh__law_answer, fn__law_deeds, sh__law_deeds, fn_address_in, sh_address_in, fn_are_links, sh_are_links, fn_journal_line, sh_journal_line, fn_is_deed, sh_is_deed, fn__law_spots, sh__law_spots, fn__law_loose_rows, sh__law_loose_rows, fn_is_some_answer, sh_is_some_answer, fn_behind, sh_behind, sh_behind_1, sh_behind_2, sh_behind_3, fn_answer_of, sh_answer_of, fn_is_some_event, sh_is_some_event, fn_event_of, sh_event_of, fn_is_some_row, sh_is_some_row, fn_check_log, sh_check_log, fn_row_in, sh_row_in, fn_row_at, sh_row_at, fn_deeds_of, sh_deeds_of, sh_deeds_of_1, fn_read_journal, sh_read_journal, fn__law_is_kept, sh__law_is_kept, fn__law_right, sh__law_right, gl_ASK, gl_LETTERS, gl_SIGNS, gl_MOST_LETTERS, gl_MOST_SIGNS, gl_MOST_MOMENT, gl_MOST_MARK, gl_MOST_LINKS, gl_MOST_DIGITS, gl_DIGITS, gl_SEALS, ra, setSl, frzS, isiD, hdC, tlC, forC, rf, r_fmts, r_fmti, r_part, r_rpart, r_split, r_join, exists_eq']
  refine ⟨_, _, _, rfl, ?_⟩
  rw [decide_eq_true (by omega)]
  exact hk
theorem num_head (n : Nat) : (TL.numL n).length = 1 ∨ ∃ c, (TL.numL n)[0]? = some c ∧ c ≠ 48 := by
  have key : ∀ n, 1 ≤ n → ∃ c, (TL.numL n)[0]? = some c ∧ c ≠ 48 := by
    intro n
    induction n using Nat.strongRecOn with
    | ind n ih =>
      intro h
      by_cases h2 : n < 10
      · rw [TL.numL_lt h2]
        exact ⟨_, rfl, by omega⟩
      · rw [TL.numL_step (by omega)]
        obtain ⟨c, h3, h4⟩ := ih (n / 10) (by omega) (by omega)
        exact ⟨c, by rw [List.getElem?_append_left (List.getElem?_eq_some_iff.mp h3).1]; exact h3, h4⟩
  by_cases h : n = 0
  · subst h; exact .inl rfl
  · exact .inr (key n (by omega))
theorem law_is_numeral : ∀ ds kd er, ds.length = 1 → sp_is_numeral ds kd er → wb G er cb_is_numeral (EdK kd) (startD N_is_numeral ds) := by
  rintro ds kd er - ⟨n, rfl, hn, hk⟩
  show wb G er cb_is_numeral (EdK kd) [.d (stD (TL.numL n)), .no]
  have h1 := num_len hn
  have h0 : 1 ≤ (TL.numL n).length := by
    have := TL.numL_ne n
    exact List.length_pos_iff.mpr this
  unfold cb_is_numeral
  simp only [wb, ws, rd, rq, rg, rl, rp, ri, rn, tgt, setAll, wipeL, Lit.d, Src.dat, List.set_cons_zero, List.set_cons_succ, List.getElem?_cons_zero, List.getElem?_cons_succ, List.map_cons, List.map_nil, List.cons_append, List.nil_append, List.append_nil, List.length_cons, List.length_nil, if_true, Bool.false_eq_true, if_false, Option.some.injEq, PyData.int.injEq, PyData.list.injEq, PyData.str.injEq, PyData.bool.injEq, PyData.tuple.injEq, Sl.m.injEq, Sl.l.injEq, Sl.d.injEq, exists_eq_left', exists_eq_left, true_and, r_sS, r_sl, r_sD, r_add, r_adds, r_addl, r_addt, r_sub, r_mul, r_mull, r_mod, r_fdiv, r_pow, r_lt, r_le, r_gt, r_ge, r_eq, r_eqs, r_eqb, r_ne, r_nes, r_neb, r_isN, r_notN, r_tb, r_ti, r_tl, r_tt, r_tn, r_lenl, r_lent, r_lens, r_lenc, r_int, r_intb, r_abs, r_max, r_min, r_tuple, r_tuplet, r_list, r_listt, r_repr, r_str, r_strs, r_all, r_any, r_idxl, r_idxt, r_idxs, r_idxc, r_slcl, r_slct, r_slcs, r_slcc, r_iteml, r_itemt, r_items, r_call, r_in_s, r_key, r_keys, r_count, r_str_ex, r_in_l, r_in_t, Nat.zero_add, Nat.reduceAdd, List.getD_cons_zero, List.getD_cons_succ, r_count, and_true, exists_const, List.length_map, fn_is_name, sh_is_name, fn_is_path, sh_is_path, fn_is_whole, sh_is_whole, fn_is_tuple_up_to, sh_is_tuple_up_to, fn_text_of, sh_text_of, fn_is_numeral, sh_is_numeral, fn_seal_in, sh_seal_in, fn__law_well, sh__law_well, fn__law_take, sh__law_take, fn__law_line, sh__law_line, fn__law_seal, sh__law_seal, fn__law_left, sh__law_left, fn_is_between, sh_is_between, fn_is_short_path, sh_is_short_path, fn_words_behind, sh_words_behind, fn__law_one, sh__law_one, fn__law_sealed, sh__law_sealed, fn_is_address, sh_is_address, fn_check_number, sh_check_number, fn_is_moment, sh_is_moment, fn_line_of, sh_line_of, fn__law_name, sh__law_name, fn__law_path, sh__law_path, fn__law_answer, sh__law_answer, fn__law_deeds, sh__law_deeds, fn_address_in, sh_address_in, fn_are_links, sh_are_links, fn_journal_line, sh_journal_line, fn_is_deed, sh_is_deed, fn__law_spots, sh__law_spots, fn__law_loose_rows, sh__law_loose_rows, fn_is_some_answer, sh_is_some_answer, fn_behind, sh_behind, sh_behind_1, sh_behind_2, sh_behind_3, fn_answer_of, sh_answer_of, fn_is_some_event, sh_is_some_event, fn_event_of, sh_event_of, fn_is_some_row, sh_is_some_row, fn_check_log, sh_check_log, fn_row_in, sh_row_in, fn_row_at, sh_row_at, fn_deeds_of, sh_deeds_of, sh_deeds_of_1, fn_read_journal, sh_read_journal, fn__law_is_kept, sh__law_is_kept, fn__law_right, sh__law_right, gl_ASK, gl_LETTERS, gl_SIGNS, gl_MOST_LETTERS, gl_MOST_SIGNS, gl_MOST_MOMENT, gl_MOST_MARK, gl_MOST_LINKS, gl_MOST_DIGITS, gl_DIGITS, gl_SEALS, ra, setSl, frzS, isiD, hdC, tlC, forC, rf, r_fmts, r_fmti, r_part, r_rpart, r_split, r_join, exists_eq']
  refine ⟨line_le (show (TL.numL n).length ≤ _ by omega), ?_⟩
  rw [decide_eq_true (show (1 : Int) ≤ ((mk (TL.numL n)).length : Nat) by show (1 : Int) ≤ ((TL.numL n).length : Nat); omega), if_pos rfl, decide_eq_true (show ((mk (TL.numL n)).length : Int) ≤ 12 by show ((TL.numL n).length : Int) ≤ 12; omega), Bool.not_true, if_neg Bool.false_ne_true, dg_s]
  refine ⟨by omega, WTrue, rfl, in_all (n := 0) fun c hc => dg_mem (TL.numL_digits n c hc), fun acc hw => let ⟨bs, e, h⟩ := hw.fin; ⟨bs, e, ?_⟩⟩
  rw [h, Bool.not_true, if_neg Bool.false_ne_true]
  refine ⟨line_le (show (TL.numL n).length ≤ _ by omega), ?_⟩
  by_cases h3 : ((mk (TL.numL n)).length : Int) = 1
  · rw [decide_eq_true h3, if_pos rfl]
    exact hk
  · rw [decide_eq_false h3, if_neg Bool.false_ne_true]
    refine ⟨line_le (show (TL.numL n).length ≤ _ by omega), ?_⟩
    rcases num_head n with h4 | ⟨c, h4, h5⟩
    · exact absurd (show ((TL.numL n).length : Int) = 1 by omega) h3
    · refine ⟨c, by rw [show (0 : Int) = ((0 : Nat) : Int) from rfl, atI_natL]; exact h4, ?_⟩
      rw [ze_s, decide_eq_false fun z => h5 (by have := mk_inj (l := [c]) (m := [48]) z; injection this)]
      exact hk
theorem law__law_one : ∀ ds kd er, ds.length = 2 → sp__law_one ds kd er → wb G er cb__law_one (EdK kd) (startD N__law_one ds) := by
  rintro ds kd er - (⟨xs, rfl | rfl, h1, h2, hk⟩ | ⟨l, rfl, h1, h2, hk⟩)
  · show wb G er cb__law_one (EdK kd) [.d wellD, .d (.list xs)]
    unfold cb__law_one
    simp only [wb, ws, rd, rq, rg, rl, rp, ri, rn, tgt, setAll, wipeL, Lit.d, Src.dat, List.set_cons_zero, List.set_cons_succ, List.getElem?_cons_zero, List.getElem?_cons_succ, List.map_cons, List.map_nil, List.cons_append, List.nil_append, List.append_nil, List.length_cons, List.length_nil, if_true, Bool.false_eq_true, if_false, Option.some.injEq, PyData.int.injEq, PyData.list.injEq, PyData.str.injEq, PyData.bool.injEq, PyData.tuple.injEq, Sl.m.injEq, Sl.l.injEq, Sl.d.injEq, exists_eq_left', exists_eq_left, true_and, r_sS, r_sl, r_sD, r_add, r_adds, r_addl, r_addt, r_sub, r_mul, r_mull, r_mod, r_fdiv, r_pow, r_lt, r_le, r_gt, r_ge, r_eq, r_eqs, r_eqb, r_ne, r_nes, r_neb, r_isN, r_notN, r_tb, r_ti, r_tl, r_tt, r_tn, r_lenl, r_lent, r_lens, r_lenc, r_int, r_intb, r_abs, r_max, r_min, r_tuple, r_tuplet, r_list, r_listt, r_repr, r_str, r_strs, r_all, r_any, r_idxl, r_idxt, r_idxs, r_idxc, r_slcl, r_slct, r_slcs, r_slcc, r_iteml, r_itemt, r_items, r_call, r_in_s, r_key, r_keys, r_count, r_str_ex, r_in_l, r_in_t, Nat.zero_add, Nat.reduceAdd, List.getD_cons_zero, List.getD_cons_succ, r_count, and_true, exists_const, List.length_map, fn_is_name, sh_is_name, fn_is_path, sh_is_path, fn_is_whole, sh_is_whole, fn_is_tuple_up_to, sh_is_tuple_up_to, fn_text_of, sh_text_of, fn_is_numeral, sh_is_numeral, fn_seal_in, sh_seal_in, fn__law_well, sh__law_well, fn__law_take, sh__law_take, fn__law_line, sh__law_line, fn__law_seal, sh__law_seal, fn__law_left, sh__law_left, fn_is_between, sh_is_between, fn_is_short_path, sh_is_short_path, fn_words_behind, sh_words_behind, fn__law_one, sh__law_one, fn__law_sealed, sh__law_sealed, fn_is_address, sh_is_address, fn_check_number, sh_check_number, fn_is_moment, sh_is_moment, fn_line_of, sh_line_of, fn__law_name, sh__law_name, fn__law_path, sh__law_path, fn__law_answer, sh__law_answer, fn__law_deeds, sh__law_deeds, fn_address_in, sh_address_in, fn_are_links, sh_are_links, fn_journal_line, sh_journal_line, fn_is_deed, sh_is_deed, fn__law_spots, sh__law_spots, fn__law_loose_rows, sh__law_loose_rows, fn_is_some_answer, sh_is_some_answer, fn_behind, sh_behind, sh_behind_1, sh_behind_2, sh_behind_3, fn_answer_of, sh_answer_of, fn_is_some_event, sh_is_some_event, fn_event_of, sh_event_of, fn_is_some_row, sh_is_some_row, fn_check_log, sh_check_log, fn_row_in, sh_row_in, fn_row_at, sh_row_at, fn_deeds_of, sh_deeds_of, sh_deeds_of_1, fn_read_journal, sh_read_journal, fn__law_is_kept, sh__law_is_kept, fn__law_right, sh__law_right, gl_ASK, gl_LETTERS, gl_SIGNS, gl_MOST_LETTERS, gl_MOST_SIGNS, gl_MOST_MOMENT, gl_MOST_MARK, gl_MOST_LINKS, gl_MOST_DIGITS, gl_DIGITS, gl_SEALS, ra, setSl, frzS, isiD, hdC, tlC, forC, rf, r_fmts, r_fmti, r_part, r_rpart, r_split, r_join, exists_eq']
    refine ⟨xs.length, rfl, by omega, fun m m0 m1 => ?_⟩
    simp only [wb, ws, rd, rq, rg, rl, rp, ri, rn, tgt, setAll, wipeL, Lit.d, Src.dat, List.set_cons_zero, List.set_cons_succ, List.getElem?_cons_zero, List.getElem?_cons_succ, List.map_cons, List.map_nil, List.cons_append, List.nil_append, List.append_nil, List.length_cons, List.length_nil, if_true, Bool.false_eq_true, if_false, Option.some.injEq, PyData.int.injEq, PyData.list.injEq, PyData.str.injEq, PyData.bool.injEq, PyData.tuple.injEq, Sl.m.injEq, Sl.l.injEq, Sl.d.injEq, exists_eq_left', exists_eq_left, true_and, r_sS, r_sl, r_sD, r_add, r_adds, r_addl, r_addt, r_sub, r_mul, r_mull, r_mod, r_fdiv, r_pow, r_lt, r_le, r_gt, r_ge, r_eq, r_eqs, r_eqb, r_ne, r_nes, r_neb, r_isN, r_notN, r_tb, r_ti, r_tl, r_tt, r_tn, r_lenl, r_lent, r_lens, r_lenc, r_int, r_intb, r_abs, r_max, r_min, r_tuple, r_tuplet, r_list, r_listt, r_repr, r_str, r_strs, r_all, r_any, r_idxl, r_idxt, r_idxs, r_idxc, r_slcl, r_slct, r_slcs, r_slcc, r_iteml, r_itemt, r_items, r_call, r_in_s, r_key, r_keys, r_count, r_str_ex, r_in_l, r_in_t, Nat.zero_add, Nat.reduceAdd, List.getD_cons_zero, List.getD_cons_succ, r_count, and_true, exists_const, List.length_map, fn_is_name, sh_is_name, fn_is_path, sh_is_path, fn_is_whole, sh_is_whole, fn_is_tuple_up_to, sh_is_tuple_up_to, fn_text_of, sh_text_of, fn_is_numeral, sh_is_numeral, fn_seal_in, sh_seal_in, fn__law_well, sh__law_well, fn__law_take, sh__law_take, fn__law_line, sh__law_line, fn__law_seal, sh__law_seal, fn__law_left, sh__law_left, fn_is_between, sh_is_between, fn_is_short_path, sh_is_short_path, fn_words_behind, sh_words_behind, fn__law_one, sh__law_one, fn__law_sealed, sh__law_sealed, fn_is_address, sh_is_address, fn_check_number, sh_check_number, fn_is_moment, sh_is_moment, fn_line_of, sh_line_of, fn__law_name, sh__law_name, fn__law_path, sh__law_path, fn__law_answer, sh__law_answer, fn__law_deeds, sh__law_deeds, fn_address_in, sh_address_in, fn_are_links, sh_are_links, fn_journal_line, sh_journal_line, fn_is_deed, sh_is_deed, fn__law_spots, sh__law_spots, fn__law_loose_rows, sh__law_loose_rows, fn_is_some_answer, sh_is_some_answer, fn_behind, sh_behind, sh_behind_1, sh_behind_2, sh_behind_3, fn_answer_of, sh_answer_of, fn_is_some_event, sh_is_some_event, fn_event_of, sh_event_of, fn_is_some_row, sh_is_some_row, fn_check_log, sh_check_log, fn_row_in, sh_row_in, fn_row_at, sh_row_at, fn_deeds_of, sh_deeds_of, sh_deeds_of_1, fn_read_journal, sh_read_journal, fn__law_is_kept, sh__law_is_kept, fn__law_right, sh__law_right, gl_ASK, gl_LETTERS, gl_SIGNS, gl_MOST_LETTERS, gl_MOST_SIGNS, gl_MOST_MOMENT, gl_MOST_MARK, gl_MOST_LINKS, gl_MOST_DIGITS, gl_DIGITS, gl_SEALS, ra, setSl, frzS, isiD, hdC, tlC, forC, rf, r_fmts, r_fmti, r_part, r_rpart, r_split, r_join, exists_eq']
    have hm : m.toNat < xs.length := by omega
    exact ⟨xs[m.toNat], by rw [atI_posL _ m0]; exact List.getElem?_eq_getElem hm, hk _ (List.getElem_mem hm)⟩
  · show wb G er cb__law_one (EdK kd) [.d wellD, .d (.tuple xs)]
    unfold cb__law_one
    simp only [wb, ws, rd, rq, rg, rl, rp, ri, rn, tgt, setAll, wipeL, Lit.d, Src.dat, List.set_cons_zero, List.set_cons_succ, List.getElem?_cons_zero, List.getElem?_cons_succ, List.map_cons, List.map_nil, List.cons_append, List.nil_append, List.append_nil, List.length_cons, List.length_nil, if_true, Bool.false_eq_true, if_false, Option.some.injEq, PyData.int.injEq, PyData.list.injEq, PyData.str.injEq, PyData.bool.injEq, PyData.tuple.injEq, Sl.m.injEq, Sl.l.injEq, Sl.d.injEq, exists_eq_left', exists_eq_left, true_and, r_sS, r_sl, r_sD, r_add, r_adds, r_addl, r_addt, r_sub, r_mul, r_mull, r_mod, r_fdiv, r_pow, r_lt, r_le, r_gt, r_ge, r_eq, r_eqs, r_eqb, r_ne, r_nes, r_neb, r_isN, r_notN, r_tb, r_ti, r_tl, r_tt, r_tn, r_lenl, r_lent, r_lens, r_lenc, r_int, r_intb, r_abs, r_max, r_min, r_tuple, r_tuplet, r_list, r_listt, r_repr, r_str, r_strs, r_all, r_any, r_idxl, r_idxt, r_idxs, r_idxc, r_slcl, r_slct, r_slcs, r_slcc, r_iteml, r_itemt, r_items, r_call, r_in_s, r_key, r_keys, r_count, r_str_ex, r_in_l, r_in_t, Nat.zero_add, Nat.reduceAdd, List.getD_cons_zero, List.getD_cons_succ, r_count, and_true, exists_const, List.length_map, fn_is_name, sh_is_name, fn_is_path, sh_is_path, fn_is_whole, sh_is_whole, fn_is_tuple_up_to, sh_is_tuple_up_to, fn_text_of, sh_text_of, fn_is_numeral, sh_is_numeral, fn_seal_in, sh_seal_in, fn__law_well, sh__law_well, fn__law_take, sh__law_take, fn__law_line, sh__law_line, fn__law_seal, sh__law_seal, fn__law_left, sh__law_left, fn_is_between, sh_is_between, fn_is_short_path, sh_is_short_path, fn_words_behind, sh_words_behind, fn__law_one, sh__law_one, fn__law_sealed, sh__law_sealed, fn_is_address, sh_is_address, fn_check_number, sh_check_number, fn_is_moment, sh_is_moment, fn_line_of, sh_line_of, fn__law_name, sh__law_name, fn__law_path, sh__law_path, fn__law_answer, sh__law_answer, fn__law_deeds, sh__law_deeds, fn_address_in, sh_address_in, fn_are_links, sh_are_links, fn_journal_line, sh_journal_line, fn_is_deed, sh_is_deed, fn__law_spots, sh__law_spots, fn__law_loose_rows, sh__law_loose_rows, fn_is_some_answer, sh_is_some_answer, fn_behind, sh_behind, sh_behind_1, sh_behind_2, sh_behind_3, fn_answer_of, sh_answer_of, fn_is_some_event, sh_is_some_event, fn_event_of, sh_event_of, fn_is_some_row, sh_is_some_row, fn_check_log, sh_check_log, fn_row_in, sh_row_in, fn_row_at, sh_row_at, fn_deeds_of, sh_deeds_of, sh_deeds_of_1, fn_read_journal, sh_read_journal, fn__law_is_kept, sh__law_is_kept, fn__law_right, sh__law_right, gl_ASK, gl_LETTERS, gl_SIGNS, gl_MOST_LETTERS, gl_MOST_SIGNS, gl_MOST_MOMENT, gl_MOST_MARK, gl_MOST_LINKS, gl_MOST_DIGITS, gl_DIGITS, gl_SEALS, ra, setSl, frzS, isiD, hdC, tlC, forC, rf, r_fmts, r_fmti, r_part, r_rpart, r_split, r_join, exists_eq']
    refine ⟨xs.length, rfl, by omega, fun m m0 m1 => ?_⟩
    simp only [wb, ws, rd, rq, rg, rl, rp, ri, rn, tgt, setAll, wipeL, Lit.d, Src.dat, List.set_cons_zero, List.set_cons_succ, List.getElem?_cons_zero, List.getElem?_cons_succ, List.map_cons, List.map_nil, List.cons_append, List.nil_append, List.append_nil, List.length_cons, List.length_nil, if_true, Bool.false_eq_true, if_false, Option.some.injEq, PyData.int.injEq, PyData.list.injEq, PyData.str.injEq, PyData.bool.injEq, PyData.tuple.injEq, Sl.m.injEq, Sl.l.injEq, Sl.d.injEq, exists_eq_left', exists_eq_left, true_and, r_sS, r_sl, r_sD, r_add, r_adds, r_addl, r_addt, r_sub, r_mul, r_mull, r_mod, r_fdiv, r_pow, r_lt, r_le, r_gt, r_ge, r_eq, r_eqs, r_eqb, r_ne, r_nes, r_neb, r_isN, r_notN, r_tb, r_ti, r_tl, r_tt, r_tn, r_lenl, r_lent, r_lens, r_lenc, r_int, r_intb, r_abs, r_max, r_min, r_tuple, r_tuplet, r_list, r_listt, r_repr, r_str, r_strs, r_all, r_any, r_idxl, r_idxt, r_idxs, r_idxc, r_slcl, r_slct, r_slcs, r_slcc, r_iteml, r_itemt, r_items, r_call, r_in_s, r_key, r_keys, r_count, r_str_ex, r_in_l, r_in_t, Nat.zero_add, Nat.reduceAdd, List.getD_cons_zero, List.getD_cons_succ, r_count, and_true, exists_const, List.length_map, fn_is_name, sh_is_name, fn_is_path, sh_is_path, fn_is_whole, sh_is_whole, fn_is_tuple_up_to, sh_is_tuple_up_to, fn_text_of, sh_text_of, fn_is_numeral, sh_is_numeral, fn_seal_in, sh_seal_in, fn__law_well, sh__law_well, fn__law_take, sh__law_take, fn__law_line, sh__law_line, fn__law_seal, sh__law_seal, fn__law_left, sh__law_left, fn_is_between, sh_is_between, fn_is_short_path, sh_is_short_path, fn_words_behind, sh_words_behind, fn__law_one, sh__law_one, fn__law_sealed, sh__law_sealed, fn_is_address, sh_is_address, fn_check_number, sh_check_number, fn_is_moment, sh_is_moment, fn_line_of, sh_line_of, fn__law_name, sh__law_name, fn__law_path, sh__law_path, fn__law_answer, sh__law_answer, fn__law_deeds, sh__law_deeds, fn_address_in, sh_address_in, fn_are_links, sh_are_links, fn_journal_line, sh_journal_line, fn_is_deed, sh_is_deed, fn__law_spots, sh__law_spots, fn__law_loose_rows, sh__law_loose_rows, fn_is_some_answer, sh_is_some_answer, fn_behind, sh_behind, sh_behind_1, sh_behind_2, sh_behind_3, fn_answer_of, sh_answer_of, fn_is_some_event, sh_is_some_event, fn_event_of, sh_event_of, fn_is_some_row, sh_is_some_row, fn_check_log, sh_check_log, fn_row_in, sh_row_in, fn_row_at, sh_row_at, fn_deeds_of, sh_deeds_of, sh_deeds_of_1, fn_read_journal, sh_read_journal, fn__law_is_kept, sh__law_is_kept, fn__law_right, sh__law_right, gl_ASK, gl_LETTERS, gl_SIGNS, gl_MOST_LETTERS, gl_MOST_SIGNS, gl_MOST_MOMENT, gl_MOST_MARK, gl_MOST_LINKS, gl_MOST_DIGITS, gl_DIGITS, gl_SEALS, ra, setSl, frzS, isiD, hdC, tlC, forC, rf, r_fmts, r_fmti, r_part, r_rpart, r_split, r_join, exists_eq']
    have hm : m.toNat < xs.length := by omega
    exact ⟨xs[m.toNat], by rw [atI_posL _ m0]; exact List.getElem?_eq_getElem hm, hk _ (List.getElem_mem hm)⟩
  · show wb G er cb__law_one (EdK kd) [.d wellD, .d (.str (mk l))]
    unfold cb__law_one
    simp only [wb, ws, rd, rq, rg, rl, rp, ri, rn, tgt, setAll, wipeL, Lit.d, Src.dat, List.set_cons_zero, List.set_cons_succ, List.getElem?_cons_zero, List.getElem?_cons_succ, List.map_cons, List.map_nil, List.cons_append, List.nil_append, List.append_nil, List.length_cons, List.length_nil, if_true, Bool.false_eq_true, if_false, Option.some.injEq, PyData.int.injEq, PyData.list.injEq, PyData.str.injEq, PyData.bool.injEq, PyData.tuple.injEq, Sl.m.injEq, Sl.l.injEq, Sl.d.injEq, exists_eq_left', exists_eq_left, true_and, r_sS, r_sl, r_sD, r_add, r_adds, r_addl, r_addt, r_sub, r_mul, r_mull, r_mod, r_fdiv, r_pow, r_lt, r_le, r_gt, r_ge, r_eq, r_eqs, r_eqb, r_ne, r_nes, r_neb, r_isN, r_notN, r_tb, r_ti, r_tl, r_tt, r_tn, r_lenl, r_lent, r_lens, r_lenc, r_int, r_intb, r_abs, r_max, r_min, r_tuple, r_tuplet, r_list, r_listt, r_repr, r_str, r_strs, r_all, r_any, r_idxl, r_idxt, r_idxs, r_idxc, r_slcl, r_slct, r_slcs, r_slcc, r_iteml, r_itemt, r_items, r_call, r_in_s, r_key, r_keys, r_count, r_str_ex, r_in_l, r_in_t, Nat.zero_add, Nat.reduceAdd, List.getD_cons_zero, List.getD_cons_succ, r_count, and_true, exists_const, List.length_map, fn_is_name, sh_is_name, fn_is_path, sh_is_path, fn_is_whole, sh_is_whole, fn_is_tuple_up_to, sh_is_tuple_up_to, fn_text_of, sh_text_of, fn_is_numeral, sh_is_numeral, fn_seal_in, sh_seal_in, fn__law_well, sh__law_well, fn__law_take, sh__law_take, fn__law_line, sh__law_line, fn__law_seal, sh__law_seal, fn__law_left, sh__law_left, fn_is_between, sh_is_between, fn_is_short_path, sh_is_short_path, fn_words_behind, sh_words_behind, fn__law_one, sh__law_one, fn__law_sealed, sh__law_sealed, fn_is_address, sh_is_address, fn_check_number, sh_check_number, fn_is_moment, sh_is_moment, fn_line_of, sh_line_of, fn__law_name, sh__law_name, fn__law_path, sh__law_path, fn__law_answer, sh__law_answer, fn__law_deeds, sh__law_deeds, fn_address_in, sh_address_in, fn_are_links, sh_are_links, fn_journal_line, sh_journal_line, fn_is_deed, sh_is_deed, fn__law_spots, sh__law_spots, fn__law_loose_rows, sh__law_loose_rows, fn_is_some_answer, sh_is_some_answer, fn_behind, sh_behind, sh_behind_1, sh_behind_2, sh_behind_3, fn_answer_of, sh_answer_of, fn_is_some_event, sh_is_some_event, fn_event_of, sh_event_of, fn_is_some_row, sh_is_some_row, fn_check_log, sh_check_log, fn_row_in, sh_row_in, fn_row_at, sh_row_at, fn_deeds_of, sh_deeds_of, sh_deeds_of_1, fn_read_journal, sh_read_journal, fn__law_is_kept, sh__law_is_kept, fn__law_right, sh__law_right, gl_ASK, gl_LETTERS, gl_SIGNS, gl_MOST_LETTERS, gl_MOST_SIGNS, gl_MOST_MOMENT, gl_MOST_MARK, gl_MOST_LINKS, gl_MOST_DIGITS, gl_DIGITS, gl_SEALS, ra, setSl, frzS, isiD, hdC, tlC, forC, rf, r_fmts, r_fmti, r_part, r_rpart, r_split, r_join, exists_eq']
    refine ⟨line_le (show l.length ≤ _ by omega), l.length, rfl, by omega, fun m m0 m1 => ?_⟩
    simp only [wb, ws, rd, rq, rg, rl, rp, ri, rn, tgt, setAll, wipeL, Lit.d, Src.dat, List.set_cons_zero, List.set_cons_succ, List.getElem?_cons_zero, List.getElem?_cons_succ, List.map_cons, List.map_nil, List.cons_append, List.nil_append, List.append_nil, List.length_cons, List.length_nil, if_true, Bool.false_eq_true, if_false, Option.some.injEq, PyData.int.injEq, PyData.list.injEq, PyData.str.injEq, PyData.bool.injEq, PyData.tuple.injEq, Sl.m.injEq, Sl.l.injEq, Sl.d.injEq, exists_eq_left', exists_eq_left, true_and, r_sS, r_sl, r_sD, r_add, r_adds, r_addl, r_addt, r_sub, r_mul, r_mull, r_mod, r_fdiv, r_pow, r_lt, r_le, r_gt, r_ge, r_eq, r_eqs, r_eqb, r_ne, r_nes, r_neb, r_isN, r_notN, r_tb, r_ti, r_tl, r_tt, r_tn, r_lenl, r_lent, r_lens, r_lenc, r_int, r_intb, r_abs, r_max, r_min, r_tuple, r_tuplet, r_list, r_listt, r_repr, r_str, r_strs, r_all, r_any, r_idxl, r_idxt, r_idxs, r_idxc, r_slcl, r_slct, r_slcs, r_slcc, r_iteml, r_itemt, r_items, r_call, r_in_s, r_key, r_keys, r_count, r_str_ex, r_in_l, r_in_t, Nat.zero_add, Nat.reduceAdd, List.getD_cons_zero, List.getD_cons_succ, r_count, and_true, exists_const, List.length_map, fn_is_name, sh_is_name, fn_is_path, sh_is_path, fn_is_whole, sh_is_whole, fn_is_tuple_up_to, sh_is_tuple_up_to, fn_text_of, sh_text_of, fn_is_numeral, sh_is_numeral, fn_seal_in, sh_seal_in, fn__law_well, sh__law_well, fn__law_take, sh__law_take, fn__law_line, sh__law_line, fn__law_seal, sh__law_seal, fn__law_left, sh__law_left, fn_is_between, sh_is_between, fn_is_short_path, sh_is_short_path, fn_words_behind, sh_words_behind, fn__law_one, sh__law_one, fn__law_sealed, sh__law_sealed, fn_is_address, sh_is_address, fn_check_number, sh_check_number, fn_is_moment, sh_is_moment, fn_line_of, sh_line_of, fn__law_name, sh__law_name, fn__law_path, sh__law_path, fn__law_answer, sh__law_answer, fn__law_deeds, sh__law_deeds, fn_address_in, sh_address_in, fn_are_links, sh_are_links, fn_journal_line, sh_journal_line, fn_is_deed, sh_is_deed, fn__law_spots, sh__law_spots, fn__law_loose_rows, sh__law_loose_rows, fn_is_some_answer, sh_is_some_answer, fn_behind, sh_behind, sh_behind_1, sh_behind_2, sh_behind_3, fn_answer_of, sh_answer_of, fn_is_some_event, sh_is_some_event, fn_event_of, sh_event_of, fn_is_some_row, sh_is_some_row, fn_check_log, sh_check_log, fn_row_in, sh_row_in, fn_row_at, sh_row_at, fn_deeds_of, sh_deeds_of, sh_deeds_of_1, fn_read_journal, sh_read_journal, fn__law_is_kept, sh__law_is_kept, fn__law_right, sh__law_right, gl_ASK, gl_LETTERS, gl_SIGNS, gl_MOST_LETTERS, gl_MOST_SIGNS, gl_MOST_MOMENT, gl_MOST_MARK, gl_MOST_LINKS, gl_MOST_DIGITS, gl_DIGITS, gl_SEALS, ra, setSl, frzS, isiD, hdC, tlC, forC, rf, r_fmts, r_fmti, r_part, r_rpart, r_split, r_join, exists_eq']
    have hm : m.toNat < l.length := by omega
    exact ⟨line_le (show l.length ≤ _ by omega), l[m.toNat], by rw [atI_posL _ m0]; exact List.getElem?_eq_getElem hm, hk _ (List.getElem_mem hm)⟩
theorem rng_at {n : Nat} {i : Nat} {d : FR.D} (h : ((List.range n).map fun (m : Nat) => PyData.int (m : Int))[i]? = some d) : i < n ∧ d = .int (i : Nat) := by
  rw [List.getElem?_map] at h
  cases e : (List.range n)[i]? with
  | none => rw [e] at h; cases h
  | some x =>
    obtain ⟨h1, h2⟩ := List.getElem?_eq_some_iff.mp e
    rw [List.getElem_range] at h2
    rw [List.length_range] at h1
    subst h2
    rw [e] at h
    cases h
    exact ⟨h1, rfl⟩
end K47

namespace K47
open PySem L2 PyProof.Rows FR
/-- what a seal sums up -/
def sumL (l : TX) (n : Nat) : List Int := (List.range n).map fun (i : Nat) => ((i : Int) + 1) * ((l.getD i 0 : Nat) : Int)
theorem sumL_succ (l : TX) (n : Nat) : sumL l (n + 1) = sumL l n ++ [((n : Int) + 1) * ((l.getD n 0 : Nat) : Int)] := by
  unfold sumL
  rw [List.range_succ, List.map_append]
  rfl
theorem seal_sum (l : TX) : (sumL l l.length).sum % 999983 = (sealN l : Nat) := (seal_nat l).1
def WSl (l : TX) (n : Nat) (acc : List FR.D) : Prop := acc = (sumL l n).map PyData.int
theorem mul_ok {i c : Nat} (h1 : i < 1000000) (h2 : c < 1000000) : CMulW ((i : Int) + 1) (c : Int) := wide_mul (a := 30) (b := 30) (by omega) (by omega) (by decide) (by decide) (by decide)
theorem getD_at {l : TX} {i c : Nat} (h : l[i]? = some c) : l.getD i 0 = c := by rw [List.getD_eq_getElem?_getD, h]; rfl
theorem law_seal_in : ∀ ds kd er, ds.length = 1 → sp_seal_in ds kd er → wb G er cb_seal_in (EdK kd) (startD N_seal_in ds) := by
  rintro ds kd er - ⟨l, rfl, ⟨hl, hs⟩, hk⟩
  show wb G er cb_seal_in (EdK kd) [.d (stD l), .no, .no]
  unfold cb_seal_in
  simp only [wb, ws, rd, rq, rg, rl, rp, ri, rn, tgt, setAll, wipeL, Lit.d, Src.dat, List.set_cons_zero, List.set_cons_succ, List.getElem?_cons_zero, List.getElem?_cons_succ, List.map_cons, List.map_nil, List.cons_append, List.nil_append, List.append_nil, List.length_cons, List.length_nil, if_true, Bool.false_eq_true, if_false, Option.some.injEq, PyData.int.injEq, PyData.list.injEq, PyData.str.injEq, PyData.bool.injEq, PyData.tuple.injEq, Sl.m.injEq, Sl.l.injEq, Sl.d.injEq, exists_eq_left', exists_eq_left, true_and, r_sS, r_sl, r_sD, r_add, r_adds, r_addl, r_addt, r_sub, r_mul, r_mull, r_mod, r_fdiv, r_pow, r_lt, r_le, r_gt, r_ge, r_eq, r_eqs, r_eqb, r_ne, r_nes, r_neb, r_isN, r_notN, r_tb, r_ti, r_tl, r_tt, r_tn, r_lenl, r_lent, r_lens, r_lenc, r_int, r_intb, r_abs, r_max, r_min, r_tuple, r_tuplet, r_list, r_listt, r_repr, r_str, r_strs, r_all, r_any, r_idxl, r_idxt, r_idxs, r_idxc, r_slcl, r_slct, r_slcs, r_slcc, r_iteml, r_itemt, r_items, r_call, r_in_s, r_key, r_keys, r_count, r_str_ex, r_in_l, r_in_t, Nat.zero_add, Nat.reduceAdd, List.getD_cons_zero, List.getD_cons_succ, r_count, and_true, exists_const, List.length_map, fn_is_name, sh_is_name, fn_is_path, sh_is_path, fn_is_whole, sh_is_whole, fn_is_tuple_up_to, sh_is_tuple_up_to, fn_text_of, sh_text_of, fn_is_numeral, sh_is_numeral, fn_seal_in, sh_seal_in, fn__law_well, sh__law_well, fn__law_take, sh__law_take, fn__law_line, sh__law_line, fn__law_seal, sh__law_seal, fn__law_left, sh__law_left, fn_is_between, sh_is_between, fn_is_short_path, sh_is_short_path, fn_words_behind, sh_words_behind, fn__law_one, sh__law_one, fn__law_sealed, sh__law_sealed, fn_is_address, sh_is_address, fn_check_number, sh_check_number, fn_is_moment, sh_is_moment, fn_line_of, sh_line_of, fn__law_name, sh__law_name, fn__law_path, sh__law_path, fn__law_answer, sh__law_answer, fn__law_deeds, sh__law_deeds, fn_address_in, sh_address_in, fn_are_links, sh_are_links, fn_journal_line, sh_journal_line, fn_is_deed, sh_is_deed, fn__law_spots, sh__law_spots, fn__law_loose_rows, sh__law_loose_rows, fn_is_some_answer, sh_is_some_answer, fn_behind, sh_behind, sh_behind_1, sh_behind_2, sh_behind_3, fn_answer_of, sh_answer_of, fn_is_some_event, sh_is_some_event, fn_event_of, sh_event_of, fn_is_some_row, sh_is_some_row, fn_check_log, sh_check_log, fn_row_in, sh_row_in, fn_row_at, sh_row_at, fn_deeds_of, sh_deeds_of, sh_deeds_of_1, fn_read_journal, sh_read_journal, fn__law_is_kept, sh__law_is_kept, fn__law_right, sh__law_right, gl_ASK, gl_LETTERS, gl_SIGNS, gl_MOST_LETTERS, gl_MOST_SIGNS, gl_MOST_MOMENT, gl_MOST_MARK, gl_MOST_LINKS, gl_MOST_DIGITS, gl_DIGITS, gl_SEALS, ra, setSl, frzS, isiD, hdC, tlC, forC, rf, r_fmts, r_fmti, r_part, r_rpart, r_split, r_join, exists_eq']
  rw [enumL_len]
  refine ⟨by rw [List.length_map]; omega, WSl l, rfl, ?_, ?_⟩
  · rintro i d acc hd rfl -
    obtain ⟨y, h1, h2⟩ := enumL_get _ 0 i d hd
    obtain ⟨c, hc, rfl⟩ := sign_at h1
    have hi := (List.getElem?_eq_some_iff.mp hc).1
    have hcs := hs c (List.mem_of_getElem? hc)
    rw [Nat.zero_add] at h2
    subst h2
    simp only [wb, ws, rd, rq, rg, rl, rp, ri, rn, tgt, setAll, wipeL, Lit.d, Src.dat, List.set_cons_zero, List.set_cons_succ, List.getElem?_cons_zero, List.getElem?_cons_succ, List.map_cons, List.map_nil, List.cons_append, List.nil_append, List.append_nil, List.length_cons, List.length_nil, if_true, Bool.false_eq_true, if_false, Option.some.injEq, PyData.int.injEq, PyData.list.injEq, PyData.str.injEq, PyData.bool.injEq, PyData.tuple.injEq, Sl.m.injEq, Sl.l.injEq, Sl.d.injEq, exists_eq_left', exists_eq_left, true_and, r_sS, r_sl, r_sD, r_add, r_adds, r_addl, r_addt, r_sub, r_mul, r_mull, r_mod, r_fdiv, r_pow, r_lt, r_le, r_gt, r_ge, r_eq, r_eqs, r_eqb, r_ne, r_nes, r_neb, r_isN, r_notN, r_tb, r_ti, r_tl, r_tt, r_tn, r_lenl, r_lent, r_lens, r_lenc, r_int, r_intb, r_abs, r_max, r_min, r_tuple, r_tuplet, r_list, r_listt, r_repr, r_str, r_strs, r_all, r_any, r_idxl, r_idxt, r_idxs, r_idxc, r_slcl, r_slct, r_slcs, r_slcc, r_iteml, r_itemt, r_items, r_call, r_in_s, r_key, r_keys, r_count, r_str_ex, r_in_l, r_in_t, Nat.zero_add, Nat.reduceAdd, List.getD_cons_zero, List.getD_cons_succ, r_count, and_true, exists_const, List.length_map, fn_is_name, sh_is_name, fn_is_path, sh_is_path, fn_is_whole, sh_is_whole, fn_is_tuple_up_to, sh_is_tuple_up_to, fn_text_of, sh_text_of, fn_is_numeral, sh_is_numeral, fn_seal_in, sh_seal_in, fn__law_well, sh__law_well, fn__law_take, sh__law_take, fn__law_line, sh__law_line, fn__law_seal, sh__law_seal, fn__law_left, sh__law_left, fn_is_between, sh_is_between, fn_is_short_path, sh_is_short_path, fn_words_behind, sh_words_behind, fn__law_one, sh__law_one, fn__law_sealed, sh__law_sealed, fn_is_address, sh_is_address, fn_check_number, sh_check_number, fn_is_moment, sh_is_moment, fn_line_of, sh_line_of, fn__law_name, sh__law_name, fn__law_path, sh__law_path, fn__law_answer, sh__law_answer, fn__law_deeds, sh__law_deeds, fn_address_in, sh_address_in, fn_are_links, sh_are_links, fn_journal_line, sh_journal_line, fn_is_deed, sh_is_deed, fn__law_spots, sh__law_spots, fn__law_loose_rows, sh__law_loose_rows, fn_is_some_answer, sh_is_some_answer, fn_behind, sh_behind, sh_behind_1, sh_behind_2, sh_behind_3, fn_answer_of, sh_answer_of, fn_is_some_event, sh_is_some_event, fn_event_of, sh_event_of, fn_is_some_row, sh_is_some_row, fn_check_log, sh_check_log, fn_row_in, sh_row_in, fn_row_at, sh_row_at, fn_deeds_of, sh_deeds_of, sh_deeds_of_1, fn_read_journal, sh_read_journal, fn__law_is_kept, sh__law_is_kept, fn__law_right, sh__law_right, gl_ASK, gl_LETTERS, gl_SIGNS, gl_MOST_LETTERS, gl_MOST_SIGNS, gl_MOST_MOMENT, gl_MOST_MARK, gl_MOST_LINKS, gl_MOST_DIGITS, gl_DIGITS, gl_SEALS, ra, setSl, frzS, isiD, hdC, tlC, forC, rf, r_fmts, r_fmti, r_part, r_rpart, r_split, r_join, exists_eq']
    refine ⟨_, rfl, ?_⟩
    simp only [wb, ws, rd, rq, rg, rl, rp, ri, rn, tgt, setAll, wipeL, Lit.d, Src.dat, List.set_cons_zero, List.set_cons_succ, List.getElem?_cons_zero, List.getElem?_cons_succ, List.map_cons, List.map_nil, List.cons_append, List.nil_append, List.append_nil, List.length_cons, List.length_nil, if_true, Bool.false_eq_true, if_false, Option.some.injEq, PyData.int.injEq, PyData.list.injEq, PyData.str.injEq, PyData.bool.injEq, PyData.tuple.injEq, Sl.m.injEq, Sl.l.injEq, Sl.d.injEq, exists_eq_left', exists_eq_left, true_and, r_sS, r_sl, r_sD, r_add, r_adds, r_addl, r_addt, r_sub, r_mul, r_mull, r_mod, r_fdiv, r_pow, r_lt, r_le, r_gt, r_ge, r_eq, r_eqs, r_eqb, r_ne, r_nes, r_neb, r_isN, r_notN, r_tb, r_ti, r_tl, r_tt, r_tn, r_lenl, r_lent, r_lens, r_lenc, r_int, r_intb, r_abs, r_max, r_min, r_tuple, r_tuplet, r_list, r_listt, r_repr, r_str, r_strs, r_all, r_any, r_idxl, r_idxt, r_idxs, r_idxc, r_slcl, r_slct, r_slcs, r_slcc, r_iteml, r_itemt, r_items, r_call, r_in_s, r_key, r_keys, r_count, r_str_ex, r_in_l, r_in_t, Nat.zero_add, Nat.reduceAdd, List.getD_cons_zero, List.getD_cons_succ, r_count, and_true, exists_const, List.length_map, fn_is_name, sh_is_name, fn_is_path, sh_is_path, fn_is_whole, sh_is_whole, fn_is_tuple_up_to, sh_is_tuple_up_to, fn_text_of, sh_text_of, fn_is_numeral, sh_is_numeral, fn_seal_in, sh_seal_in, fn__law_well, sh__law_well, fn__law_take, sh__law_take, fn__law_line, sh__law_line, fn__law_seal, sh__law_seal, fn__law_left, sh__law_left, fn_is_between, sh_is_between, fn_is_short_path, sh_is_short_path, fn_words_behind, sh_words_behind, fn__law_one, sh__law_one, fn__law_sealed, sh__law_sealed, fn_is_address, sh_is_address, fn_check_number, sh_check_number, fn_is_moment, sh_is_moment, fn_line_of, sh_line_of, fn__law_name, sh__law_name, fn__law_path, sh__law_path, fn__law_answer, sh__law_answer, fn__law_deeds, sh__law_deeds, fn_address_in, sh_address_in, fn_are_links, sh_are_links, fn_journal_line, sh_journal_line, fn_is_deed, sh_is_deed, fn__law_spots, sh__law_spots, fn__law_loose_rows, sh__law_loose_rows, fn_is_some_answer, sh_is_some_answer, fn_behind, sh_behind, sh_behind_1, sh_behind_2, sh_behind_3, fn_answer_of, sh_answer_of, fn_is_some_event, sh_is_some_event, fn_event_of, sh_event_of, fn_is_some_row, sh_is_some_row, fn_check_log, sh_check_log, fn_row_in, sh_row_in, fn_row_at, sh_row_at, fn_deeds_of, sh_deeds_of, sh_deeds_of_1, fn_read_journal, sh_read_journal, fn__law_is_kept, sh__law_is_kept, fn__law_right, sh__law_right, gl_ASK, gl_LETTERS, gl_SIGNS, gl_MOST_LETTERS, gl_MOST_SIGNS, gl_MOST_MOMENT, gl_MOST_MARK, gl_MOST_LINKS, gl_MOST_DIGITS, gl_DIGITS, gl_SEALS, ra, setSl, frzS, isiD, hdC, tlC, forC, rf, r_fmts, r_fmti, r_part, r_rpart, r_split, r_join, exists_eq']
    refine ⟨.inr (mul_ok (by omega) hcs), ?_⟩
    unfold WSl
    rw [sumL_succ, getD_at hc, List.map_append]
    rfl
  · intro acc hw
    unfold WSl at hw
    rw [List.length_map] at hw
    refine ⟨_, hw, by decide, ?_⟩
    rw [seal_sum]
    exact hk
def WSe (l : TX) (n : Nat) (δ : List Sl) : Prop := ∃ s, δ = [.d (stD l), .d (.int (sumL l n).sum), s]
theorem law__law_seal : ∀ ds kd er, ds.length = 1 → sp__law_seal ds kd er → wb G er cb__law_seal (EdK kd) (startD N__law_seal ds) := by
  rintro ds kd er - ⟨l, rfl, ⟨hl, hs⟩, hk⟩
  show wb G er cb__law_seal (EdK kd) [.d (stD l), .no, .no]
  unfold cb__law_seal
  simp only [wb, ws, rd, rq, rg, rl, rp, ri, rn, tgt, setAll, wipeL, Lit.d, Src.dat, List.set_cons_zero, List.set_cons_succ, List.getElem?_cons_zero, List.getElem?_cons_succ, List.map_cons, List.map_nil, List.cons_append, List.nil_append, List.append_nil, List.length_cons, List.length_nil, if_true, Bool.false_eq_true, if_false, Option.some.injEq, PyData.int.injEq, PyData.list.injEq, PyData.str.injEq, PyData.bool.injEq, PyData.tuple.injEq, Sl.m.injEq, Sl.l.injEq, Sl.d.injEq, exists_eq_left', exists_eq_left, true_and, r_sS, r_sl, r_sD, r_add, r_adds, r_addl, r_addt, r_sub, r_mul, r_mull, r_mod, r_fdiv, r_pow, r_lt, r_le, r_gt, r_ge, r_eq, r_eqs, r_eqb, r_ne, r_nes, r_neb, r_isN, r_notN, r_tb, r_ti, r_tl, r_tt, r_tn, r_lenl, r_lent, r_lens, r_lenc, r_int, r_intb, r_abs, r_max, r_min, r_tuple, r_tuplet, r_list, r_listt, r_repr, r_str, r_strs, r_all, r_any, r_idxl, r_idxt, r_idxs, r_idxc, r_slcl, r_slct, r_slcs, r_slcc, r_iteml, r_itemt, r_items, r_call, r_in_s, r_key, r_keys, r_count, r_str_ex, r_in_l, r_in_t, Nat.zero_add, Nat.reduceAdd, List.getD_cons_zero, List.getD_cons_succ, r_count, and_true, exists_const, List.length_map, fn_is_name, sh_is_name, fn_is_path, sh_is_path, fn_is_whole, sh_is_whole, fn_is_tuple_up_to, sh_is_tuple_up_to, fn_text_of, sh_text_of, fn_is_numeral, sh_is_numeral, fn_seal_in, sh_seal_in, fn__law_well, sh__law_well, fn__law_take, sh__law_take, fn__law_line, sh__law_line, fn__law_seal, sh__law_seal, fn__law_left, sh__law_left, fn_is_between, sh_is_between, fn_is_short_path, sh_is_short_path, fn_words_behind, sh_words_behind, fn__law_one, sh__law_one, fn__law_sealed, sh__law_sealed, fn_is_address, sh_is_address, fn_check_number, sh_check_number, fn_is_moment, sh_is_moment, fn_line_of, sh_line_of, fn__law_name, sh__law_name, fn__law_path, sh__law_path, fn__law_answer, sh__law_answer, fn__law_deeds, sh__law_deeds, fn_address_in, sh_address_in, fn_are_links, sh_are_links, fn_journal_line, sh_journal_line, fn_is_deed, sh_is_deed, fn__law_spots, sh__law_spots, fn__law_loose_rows, sh__law_loose_rows, fn_is_some_answer, sh_is_some_answer, fn_behind, sh_behind, sh_behind_1, sh_behind_2, sh_behind_3, fn_answer_of, sh_answer_of, fn_is_some_event, sh_is_some_event, fn_event_of, sh_event_of, fn_is_some_row, sh_is_some_row, fn_check_log, sh_check_log, fn_row_in, sh_row_in, fn_row_at, sh_row_at, fn_deeds_of, sh_deeds_of, sh_deeds_of_1, fn_read_journal, sh_read_journal, fn__law_is_kept, sh__law_is_kept, fn__law_right, sh__law_right, gl_ASK, gl_LETTERS, gl_SIGNS, gl_MOST_LETTERS, gl_MOST_SIGNS, gl_MOST_MOMENT, gl_MOST_MARK, gl_MOST_LINKS, gl_MOST_DIGITS, gl_DIGITS, gl_SEALS, ra, setSl, frzS, isiD, hdC, tlC, forC, rf, r_fmts, r_fmti, r_part, r_rpart, r_split, r_join, exists_eq']
  refine ⟨line_le (show l.length ≤ _ by omega), ⟨by show _ ≤ (l.length : Int); omega, by show (l.length : Int) < _; omega⟩, WSe l, ⟨_, rfl⟩, ?_, ?_⟩
  · rintro i d δ hd ⟨s, rfl⟩
    obtain ⟨hi, rfl⟩ := rng_at hd
    have hi2 : i < l.length := by
      have : ((mk l).length : Int).toNat = l.length := by show ((l.length : Nat) : Int).toNat = _; omega
      omega
    have hc : l[i]? = some l[i] := List.getElem?_eq_getElem hi2
    have hcs := hs l[i] (List.getElem_mem hi2)
    simp only [wb, ws, rd, rq, rg, rl, rp, ri, rn, tgt, setAll, wipeL, Lit.d, Src.dat, List.set_cons_zero, List.set_cons_succ, List.getElem?_cons_zero, List.getElem?_cons_succ, List.map_cons, List.map_nil, List.cons_append, List.nil_append, List.append_nil, List.length_cons, List.length_nil, if_true, Bool.false_eq_true, if_false, Option.some.injEq, PyData.int.injEq, PyData.list.injEq, PyData.str.injEq, PyData.bool.injEq, PyData.tuple.injEq, Sl.m.injEq, Sl.l.injEq, Sl.d.injEq, exists_eq_left', exists_eq_left, true_and, r_sS, r_sl, r_sD, r_add, r_adds, r_addl, r_addt, r_sub, r_mul, r_mull, r_mod, r_fdiv, r_pow, r_lt, r_le, r_gt, r_ge, r_eq, r_eqs, r_eqb, r_ne, r_nes, r_neb, r_isN, r_notN, r_tb, r_ti, r_tl, r_tt, r_tn, r_lenl, r_lent, r_lens, r_lenc, r_int, r_intb, r_abs, r_max, r_min, r_tuple, r_tuplet, r_list, r_listt, r_repr, r_str, r_strs, r_all, r_any, r_idxl, r_idxt, r_idxs, r_idxc, r_slcl, r_slct, r_slcs, r_slcc, r_iteml, r_itemt, r_items, r_call, r_in_s, r_key, r_keys, r_count, r_str_ex, r_in_l, r_in_t, Nat.zero_add, Nat.reduceAdd, List.getD_cons_zero, List.getD_cons_succ, r_count, and_true, exists_const, List.length_map, fn_is_name, sh_is_name, fn_is_path, sh_is_path, fn_is_whole, sh_is_whole, fn_is_tuple_up_to, sh_is_tuple_up_to, fn_text_of, sh_text_of, fn_is_numeral, sh_is_numeral, fn_seal_in, sh_seal_in, fn__law_well, sh__law_well, fn__law_take, sh__law_take, fn__law_line, sh__law_line, fn__law_seal, sh__law_seal, fn__law_left, sh__law_left, fn_is_between, sh_is_between, fn_is_short_path, sh_is_short_path, fn_words_behind, sh_words_behind, fn__law_one, sh__law_one, fn__law_sealed, sh__law_sealed, fn_is_address, sh_is_address, fn_check_number, sh_check_number, fn_is_moment, sh_is_moment, fn_line_of, sh_line_of, fn__law_name, sh__law_name, fn__law_path, sh__law_path, fn__law_answer, sh__law_answer, fn__law_deeds, sh__law_deeds, fn_address_in, sh_address_in, fn_are_links, sh_are_links, fn_journal_line, sh_journal_line, fn_is_deed, sh_is_deed, fn__law_spots, sh__law_spots, fn__law_loose_rows, sh__law_loose_rows, fn_is_some_answer, sh_is_some_answer, fn_behind, sh_behind, sh_behind_1, sh_behind_2, sh_behind_3, fn_answer_of, sh_answer_of, fn_is_some_event, sh_is_some_event, fn_event_of, sh_event_of, fn_is_some_row, sh_is_some_row, fn_check_log, sh_check_log, fn_row_in, sh_row_in, fn_row_at, sh_row_at, fn_deeds_of, sh_deeds_of, sh_deeds_of_1, fn_read_journal, sh_read_journal, fn__law_is_kept, sh__law_is_kept, fn__law_right, sh__law_right, gl_ASK, gl_LETTERS, gl_SIGNS, gl_MOST_LETTERS, gl_MOST_SIGNS, gl_MOST_MOMENT, gl_MOST_MARK, gl_MOST_LINKS, gl_MOST_DIGITS, gl_DIGITS, gl_SEALS, ra, setSl, frzS, isiD, hdC, tlC, forC, rf, r_fmts, r_fmti, r_part, r_rpart, r_split, r_join, exists_eq']
    refine ⟨line_le (show l.length ≤ _ by omega), l[i], by rw [atI_natL]; exact hc, l[i], rfl, .inr (mul_ok (by omega) hcs), ?_⟩
    have e : (sumL l i).sum + ((i : Int) + 1) * (l[i] : Nat) = (sumL l (i + 1)).sum := by
      rw [sumL_succ, List.sum_append, List.sum_singleton, getD_at hc]
    refine ⟨.d (.int (i : Nat)), ?_⟩
    rw [← e]
  · rintro δ ⟨s, rfl⟩
    rw [List.length_range]
    simp only [wb, ws, rd, rq, rg, rl, rp, ri, rn, tgt, setAll, wipeL, Lit.d, Src.dat, List.set_cons_zero, List.set_cons_succ, List.getElem?_cons_zero, List.getElem?_cons_succ, List.map_cons, List.map_nil, List.cons_append, List.nil_append, List.append_nil, List.length_cons, List.length_nil, if_true, Bool.false_eq_true, if_false, Option.some.injEq, PyData.int.injEq, PyData.list.injEq, PyData.str.injEq, PyData.bool.injEq, PyData.tuple.injEq, Sl.m.injEq, Sl.l.injEq, Sl.d.injEq, exists_eq_left', exists_eq_left, true_and, r_sS, r_sl, r_sD, r_add, r_adds, r_addl, r_addt, r_sub, r_mul, r_mull, r_mod, r_fdiv, r_pow, r_lt, r_le, r_gt, r_ge, r_eq, r_eqs, r_eqb, r_ne, r_nes, r_neb, r_isN, r_notN, r_tb, r_ti, r_tl, r_tt, r_tn, r_lenl, r_lent, r_lens, r_lenc, r_int, r_intb, r_abs, r_max, r_min, r_tuple, r_tuplet, r_list, r_listt, r_repr, r_str, r_strs, r_all, r_any, r_idxl, r_idxt, r_idxs, r_idxc, r_slcl, r_slct, r_slcs, r_slcc, r_iteml, r_itemt, r_items, r_call, r_in_s, r_key, r_keys, r_count, r_str_ex, r_in_l, r_in_t, Nat.zero_add, Nat.reduceAdd, List.getD_cons_zero, List.getD_cons_succ, r_count, and_true, exists_const, List.length_map, fn_is_name, sh_is_name, fn_is_path, sh_is_path, fn_is_whole, sh_is_whole, fn_is_tuple_up_to, sh_is_tuple_up_to, fn_text_of, sh_text_of, fn_is_numeral, sh_is_numeral, fn_seal_in, sh_seal_in, fn__law_well, sh__law_well, fn__law_take, sh__law_take, fn__law_line, sh__law_line, fn__law_seal, sh__law_seal, fn__law_left, sh__law_left, fn_is_between, sh_is_between, fn_is_short_path, sh_is_short_path, fn_words_behind, sh_words_behind, fn__law_one, sh__law_one, fn__law_sealed, sh__law_sealed, fn_is_address, sh_is_address, fn_check_number, sh_check_number, fn_is_moment, sh_is_moment, fn_line_of, sh_line_of, fn__law_name, sh__law_name, fn__law_path, sh__law_path, fn__law_answer, sh__law_answer, fn__law_deeds, sh__law_deeds, fn_address_in, sh_address_in, fn_are_links, sh_are_links, fn_journal_line, sh_journal_line, fn_is_deed, sh_is_deed, fn__law_spots, sh__law_spots, fn__law_loose_rows, sh__law_loose_rows, fn_is_some_answer, sh_is_some_answer, fn_behind, sh_behind, sh_behind_1, sh_behind_2, sh_behind_3, fn_answer_of, sh_answer_of, fn_is_some_event, sh_is_some_event, fn_event_of, sh_event_of, fn_is_some_row, sh_is_some_row, fn_check_log, sh_check_log, fn_row_in, sh_row_in, fn_row_at, sh_row_at, fn_deeds_of, sh_deeds_of, sh_deeds_of_1, fn_read_journal, sh_read_journal, fn__law_is_kept, sh__law_is_kept, fn__law_right, sh__law_right, gl_ASK, gl_LETTERS, gl_SIGNS, gl_MOST_LETTERS, gl_MOST_SIGNS, gl_MOST_MOMENT, gl_MOST_MARK, gl_MOST_LINKS, gl_MOST_DIGITS, gl_DIGITS, gl_SEALS, ra, setSl, frzS, isiD, hdC, tlC, forC, rf, r_fmts, r_fmti, r_part, r_rpart, r_split, r_join, exists_eq']
    refine ⟨by decide, ?_⟩
    have : ((mk l).length : Int).toNat = l.length := by show ((l.length : Nat) : Int).toNat = _; omega
    rw [this, seal_sum]
    exact hk
end K47

namespace K47
open PySem L2 PyProof.Rows FR
theorem law_address_in : ∀ ds kd er, ds.length = 1 → sp_address_in ds kd er → wb G er cb_address_in (EdK kd) (startD N_address_in ds) := by
  rintro ds kd er - ⟨a, rfl, ha, hk⟩
  show wb G er cb_address_in (EdK kd) [.d (stD (adT a)), .no, .no, .no, .no]
  have hl := ha.len
  unfold cb_address_in
  simp only [wb, ws, rd, rq, rg, rl, rp, ri, rn, tgt, setAll, wipeL, Lit.d, Src.dat, List.set_cons_zero, List.set_cons_succ, List.getElem?_cons_zero, List.getElem?_cons_succ, List.map_cons, List.map_nil, List.cons_append, List.nil_append, List.append_nil, List.length_cons, List.length_nil, if_true, Bool.false_eq_true, if_false, Option.some.injEq, PyData.int.injEq, PyData.list.injEq, PyData.str.injEq, PyData.bool.injEq, PyData.tuple.injEq, Sl.m.injEq, Sl.l.injEq, Sl.d.injEq, exists_eq_left', exists_eq_left, true_and, r_sS, r_sl, r_sD, r_add, r_adds, r_addl, r_addt, r_sub, r_mul, r_mull, r_mod, r_fdiv, r_pow, r_lt, r_le, r_gt, r_ge, r_eq, r_eqs, r_eqb, r_ne, r_nes, r_neb, r_isN, r_notN, r_tb, r_ti, r_tl, r_tt, r_tn, r_lenl, r_lent, r_lens, r_lenc, r_int, r_intb, r_abs, r_max, r_min, r_tuple, r_tuplet, r_list, r_listt, r_repr, r_str, r_strs, r_all, r_any, r_idxl, r_idxt, r_idxs, r_idxc, r_slcl, r_slct, r_slcs, r_slcc, r_iteml, r_itemt, r_items, r_call, r_in_s, r_key, r_keys, r_count, r_str_ex, r_in_l, r_in_t, Nat.zero_add, Nat.reduceAdd, List.getD_cons_zero, List.getD_cons_succ, r_count, and_true, exists_const, List.length_map, fn_is_name, sh_is_name, fn_is_path, sh_is_path, fn_is_whole, sh_is_whole, fn_is_tuple_up_to, sh_is_tuple_up_to, fn_text_of, sh_text_of, fn_is_numeral, sh_is_numeral, fn_seal_in, sh_seal_in, fn__law_well, sh__law_well, fn__law_take, sh__law_take, fn__law_line, sh__law_line, fn__law_seal, sh__law_seal, fn__law_left, sh__law_left, fn_is_between, sh_is_between, fn_is_short_path, sh_is_short_path, fn_words_behind, sh_words_behind, fn__law_one, sh__law_one, fn__law_sealed, sh__law_sealed, fn_is_address, sh_is_address, fn_check_number, sh_check_number, fn_is_moment, sh_is_moment, fn_line_of, sh_line_of, fn__law_name, sh__law_name, fn__law_path, sh__law_path, fn__law_answer, sh__law_answer, fn__law_deeds, sh__law_deeds, fn_address_in, sh_address_in, fn_are_links, sh_are_links, fn_journal_line, sh_journal_line, fn_is_deed, sh_is_deed, fn__law_spots, sh__law_spots, fn__law_loose_rows, sh__law_loose_rows, fn_is_some_answer, sh_is_some_answer, fn_behind, sh_behind, sh_behind_1, sh_behind_2, sh_behind_3, fn_answer_of, sh_answer_of, fn_is_some_event, sh_is_some_event, fn_event_of, sh_event_of, fn_is_some_row, sh_is_some_row, fn_check_log, sh_check_log, fn_row_in, sh_row_in, fn_row_at, sh_row_at, fn_deeds_of, sh_deeds_of, sh_deeds_of_1, fn_read_journal, sh_read_journal, fn__law_is_kept, sh__law_is_kept, fn__law_right, sh__law_right, gl_ASK, gl_LETTERS, gl_SIGNS, gl_MOST_LETTERS, gl_MOST_SIGNS, gl_MOST_MOMENT, gl_MOST_MARK, gl_MOST_LINKS, gl_MOST_DIGITS, gl_DIGITS, gl_SEALS, ra, setSl, frzS, isiD, hdC, tlC, forC, rf, r_fmts, r_fmti, r_part, r_rpart, r_split, r_join, exists_eq']
  rw [sl_s]
  refine ⟨⟨rfl, line_le (show (adT a).length ≤ _ by omega)⟩, ?_⟩
  rw [ha.part]
  obtain ⟨r, e⟩ := ha.path
  have hr : a.2.tail.length ≤ 40 := by have := ha.p1; rw [List.length_tail]; omega
  have ea : (PyData.tuple [stD a.1, .str (mk [47] ++ mk a.2.tail)] : FR.D) = adD a := by
    rw [mk_app]
    unfold adD
    rw [e]
    rfl
  refine ⟨line_le (show 1 + a.2.tail.length ≤ _ by omega), line_le (by omega), ?_⟩
  show sp_is_address [PyData.tuple [stD a.1, .str (mk [47] ++ mk a.2.tail)]] (fun x => ∃ t, truD x = some t ∧ if t = true then kd (PyData.tuple [stD a.1, .str (mk [47] ++ mk a.2.tail)]) else kd .none) er
  rw [ea]
  exact ⟨a, rfl, ha, true, rfl, hk⟩
theorem evD_at0 {e : Ev} {P : FR.D → Prop} (h : P (.str (kindS e))) : ∃ d, atI (PyData.str (kindS e) :: evR e) 0 = some d ∧ P d := ⟨_, atI_head, h⟩
def WBh (ls : List Ad) (n : Nat) (acc : List FR.D) : Prop := acc = ((ls.take n).map adT).map stD
theorem ad_at {ls : List Ad} {i : Nat} {d : FR.D} (h : (ls.map adD)[i]? = some d) : ∃ a, ls[i]? = some a ∧ d = adD a := by
  rw [List.getElem?_map] at h
  cases e : ls[i]? with
  | none => rw [e] at h; cases h
  | some a => rw [e] at h; cases h; exact ⟨a, rfl, rfl⟩
theorem take_snoc {α β : Type} {xs : List α} {i : Nat} {x : α} (f : α → β) (h : xs[i]? = some x) : (xs.take (i + 1)).map f = (xs.take i).map f ++ [f x] := by
  rw [List.take_add_one, h, List.map_append]
  rfl
theorem small_log {n : Nat} (h : n ≤ 999999999999) : ((n : Nat) : Int).natAbs.log2 < 1920 := by
  have := PySem.Flt.log2_lt_of (n := n) (k := 40) (by decide) (by omega)
  show (n : Nat).log2 < 1920
  omega
theorem law_words_behind : ∀ ds kd er, ds.length = 1 → sp_words_behind ds kd er → wb G er cb_words_behind (EdK kd) (startD N_words_behind ds) := by
  rintro ds kd er - ⟨e, rfl, he, hk⟩
  show wb G er cb_words_behind (EdK kd) [.d (.tuple (.str (kindS e) :: evR e)), .no]
  unfold cb_words_behind
  simp only [wb, ws, rd, rq, rg, rl, rp, ri, rn, tgt, setAll, wipeL, Lit.d, Src.dat, List.set_cons_zero, List.set_cons_succ, List.getElem?_cons_zero, List.getElem?_cons_succ, List.map_cons, List.map_nil, List.cons_append, List.nil_append, List.append_nil, List.length_cons, List.length_nil, if_true, Bool.false_eq_true, if_false, Option.some.injEq, PyData.int.injEq, PyData.list.injEq, PyData.str.injEq, PyData.bool.injEq, PyData.tuple.injEq, Sl.m.injEq, Sl.l.injEq, Sl.d.injEq, exists_eq_left', exists_eq_left, true_and, r_sS, r_sl, r_sD, r_add, r_adds, r_addl, r_addt, r_sub, r_mul, r_mull, r_mod, r_fdiv, r_pow, r_lt, r_le, r_gt, r_ge, r_eq, r_eqs, r_eqb, r_ne, r_nes, r_neb, r_isN, r_notN, r_tb, r_ti, r_tl, r_tt, r_tn, r_lenl, r_lent, r_lens, r_lenc, r_int, r_intb, r_abs, r_max, r_min, r_tuple, r_tuplet, r_list, r_listt, r_repr, r_str, r_strs, r_all, r_any, r_idxl, r_idxt, r_idxs, r_idxc, r_slcl, r_slct, r_slcs, r_slcc, r_iteml, r_itemt, r_items, r_call, r_in_s, r_key, r_keys, r_count, r_str_ex, r_in_l, r_in_t, Nat.zero_add, Nat.reduceAdd, List.getD_cons_zero, List.getD_cons_succ, r_count, and_true, exists_const, List.length_map, fn_is_name, sh_is_name, fn_is_path, sh_is_path, fn_is_whole, sh_is_whole, fn_is_tuple_up_to, sh_is_tuple_up_to, fn_text_of, sh_text_of, fn_is_numeral, sh_is_numeral, fn_seal_in, sh_seal_in, fn__law_well, sh__law_well, fn__law_take, sh__law_take, fn__law_line, sh__law_line, fn__law_seal, sh__law_seal, fn__law_left, sh__law_left, fn_is_between, sh_is_between, fn_is_short_path, sh_is_short_path, fn_words_behind, sh_words_behind, fn__law_one, sh__law_one, fn__law_sealed, sh__law_sealed, fn_is_address, sh_is_address, fn_check_number, sh_check_number, fn_is_moment, sh_is_moment, fn_line_of, sh_line_of, fn__law_name, sh__law_name, fn__law_path, sh__law_path, fn__law_answer, sh__law_answer, fn__law_deeds, sh__law_deeds, fn_address_in, sh_address_in, fn_are_links, sh_are_links, fn_journal_line, sh_journal_line, fn_is_deed, sh_is_deed, fn__law_spots, sh__law_spots, fn__law_loose_rows, sh__law_loose_rows, fn_is_some_answer, sh_is_some_answer, fn_behind, sh_behind, sh_behind_1, sh_behind_2, sh_behind_3, fn_answer_of, sh_answer_of, fn_is_some_event, sh_is_some_event, fn_event_of, sh_event_of, fn_is_some_row, sh_is_some_row, fn_check_log, sh_check_log, fn_row_in, sh_row_in, fn_row_at, sh_row_at, fn_deeds_of, sh_deeds_of, sh_deeds_of_1, fn_read_journal, sh_read_journal, fn__law_is_kept, sh__law_is_kept, fn__law_right, sh__law_right, gl_ASK, gl_LETTERS, gl_SIGNS, gl_MOST_LETTERS, gl_MOST_SIGNS, gl_MOST_MOMENT, gl_MOST_MARK, gl_MOST_LINKS, gl_MOST_DIGITS, gl_DIGITS, gl_SEALS, ra, setSl, frzS, isiD, hdC, tlC, forC, rf, r_fmts, r_fmti, r_part, r_rpart, r_split, r_join, exists_eq']
  refine evD_at0 ?_
  rw [r_eqs, k_page]
  refine ⟨_, rfl, ?_⟩
  have rest : isPage e = false → ∃ d, atI (PyData.str (kindS e) :: evR e) 0 = some d ∧ 2 ≤ sizeLine ∧ inOk d [PyData.str (Str.ofString "moved"), PyData.str (Str.ofString "same")] ∧
      if ([PyData.str (Str.ofString "moved"), PyData.str (Str.ofString "same")].any fun z => PyData.eqv z d) = true then
        ∃ d, atI (PyData.str (kindS e) :: evR e) 1 = some d ∧ sp_text_of [d] (fun x => 1 ≤ sizeLine ∧ kd (PyData.list [x])) er
      else 0 ≤ sizeLine ∧ kd (PyData.list []) := fun hp => by
    refine evD_at0 ⟨line_le (by omega), ok_ms, ?_⟩
    rw [k_ms]
    cases e with
    | moved a => rw [if_pos (show isMS (.moved a) = true from rfl)]; exact ⟨adD a, rfl, a, rfl, he, line_le (by omega), hk⟩
    | same a => rw [if_pos (show isMS (.same a) = true from rfl)]; exact ⟨adD a, rfl, a, rfl, he, line_le (by omega), hk⟩
    | page m ls => cases hp
    | ask => rw [if_neg (show ¬ isMS .ask = true from Bool.false_ne_true)]; exact ⟨line_le (by omega), hk⟩
    | lost => rw [if_neg (show ¬ isMS .lost = true from Bool.false_ne_true)]; exact ⟨line_le (by omega), hk⟩
    | cut => rw [if_neg (show ¬ isMS .cut = true from Bool.false_ne_true)]; exact ⟨line_le (by omega), hk⟩
    | gone => rw [if_neg (show ¬ isMS .gone = true from Bool.false_ne_true)]; exact ⟨line_le (by omega), hk⟩
  cases e with
  | page m ls =>
    rw [if_pos (show isPage (.page m ls) = true from rfl)]
    obtain ⟨h1, h2, h3⟩ := he
    refine ⟨.int (m : Nat), rfl, small_log (by omega), ?_⟩
    have en : (toString ((m : Nat) : Int) : String) = toString ((m : Nat) : Int) := rfl
    rw [num_mk]
    refine ⟨line_le (by omega), .tuple (ls.map adD), rfl, ?_⟩
    show (ls.map adD).length ≤ 1000000 ∧ _
    rw [List.length_map]
    refine ⟨by omega, WBh ls, rfl, ?_, ?_⟩
    · rintro i d acc hd rfl -
      obtain ⟨a, ha, rfl⟩ := ad_at hd
      refine ⟨a, rfl, h3 a (List.mem_of_getElem? ha), ?_⟩
      unfold WBh
      rw [take_snoc adT ha, List.map_append]
      rfl
    · intro acc hw
      unfold WBh at hw
      rw [List.take_of_length_le (Nat.le_refl _)] at hw
      subst hw
      exact ⟨line_le (by rw [List.length_map, List.length_map]; omega), hk⟩
  | ask => rw [if_neg (show ¬ isPage .ask = true from Bool.false_ne_true)]; exact rest rfl
  | lost => rw [if_neg (show ¬ isPage .lost = true from Bool.false_ne_true)]; exact rest rfl
  | cut => rw [if_neg (show ¬ isPage .cut = true from Bool.false_ne_true)]; exact rest rfl
  | gone => rw [if_neg (show ¬ isPage .gone = true from Bool.false_ne_true)]; exact rest rfl
  | moved a => rw [if_neg (show ¬ isPage (.moved a) = true from Bool.false_ne_true)]; exact rest rfl
  | same a => rw [if_neg (show ¬ isPage (.same a) = true from Bool.false_ne_true)]; exact rest rfl
theorem join_ok {l : List TX} {b : Nat} (hl : l.length ≤ 1000) (hb : ∀ y ∈ l, y.length ≤ b) (h : b ≤ 10000) : ((l.map mk).map (·.length)).sum + (l.map mk).length * (mk [32]).length ≤ 16777216 := by
  rw [List.map_map, List.length_map]
  have h1 := sum_le (f := (fun z : Str => z.length) ∘ mk) (b := b) (l := l) fun x hx => hb x hx
  have h2 : l.length * b ≤ 1000 * 10000 := Nat.mul_le_mul hl h
  show _ + l.length * 1 ≤ _
  omega
theorem ad_cat {a : Ad} (ha : AdOk a) {k : KD} (h : k (stD (adT a))) : idxC (adD a) (.int 0) fun x => idxC (adD a) (.int 1) fun y => binC .add x y k := by
  have h1 := ha.n1
  have h2 := ha.p1
  refine ⟨_, rfl, _, rfl, line_le (show a.1.length + a.2.length ≤ _ by omega), ?_⟩
  rw [mk_app]
  exact h
theorem law_line_of : ∀ ds kd er, ds.length = 1 → sp_line_of ds kd er → wb G er cb_line_of (EdK kd) (startD N_line_of ds) := by
  rintro ds kd er - ⟨r, rfl, hr, hk⟩
  show wb G er cb_line_of (EdK kd) [.d (.tuple [.int (r.w : Nat), adD r.a, evD r.e]), .no, .no, .no]
  unfold cb_line_of
  simp only [wb, ws, rd, rq, rg, rl, rp, ri, rn, tgt, setAll, wipeL, Lit.d, Src.dat, List.set_cons_zero, List.set_cons_succ, List.getElem?_cons_zero, List.getElem?_cons_succ, List.map_cons, List.map_nil, List.cons_append, List.nil_append, List.append_nil, List.length_cons, List.length_nil, if_true, Bool.false_eq_true, if_false, Option.some.injEq, PyData.int.injEq, PyData.list.injEq, PyData.str.injEq, PyData.bool.injEq, PyData.tuple.injEq, Sl.m.injEq, Sl.l.injEq, Sl.d.injEq, exists_eq_left', exists_eq_left, true_and, r_sS, r_sl, r_sD, r_add, r_adds, r_addl, r_addt, r_sub, r_mul, r_mull, r_mod, r_fdiv, r_pow, r_lt, r_le, r_gt, r_ge, r_eq, r_eqs, r_eqb, r_ne, r_nes, r_neb, r_isN, r_notN, r_tb, r_ti, r_tl, r_tt, r_tn, r_lenl, r_lent, r_lens, r_lenc, r_int, r_intb, r_abs, r_max, r_min, r_tuple, r_tuplet, r_list, r_listt, r_repr, r_str, r_strs, r_all, r_any, r_idxl, r_idxt, r_idxs, r_idxc, r_slcl, r_slct, r_slcs, r_slcc, r_iteml, r_itemt, r_items, r_call, r_in_s, r_key, r_keys, r_count, r_str_ex, r_in_l, r_in_t, Nat.zero_add, Nat.reduceAdd, List.getD_cons_zero, List.getD_cons_succ, r_count, and_true, exists_const, List.length_map, fn_is_name, sh_is_name, fn_is_path, sh_is_path, fn_is_whole, sh_is_whole, fn_is_tuple_up_to, sh_is_tuple_up_to, fn_text_of, sh_text_of, fn_is_numeral, sh_is_numeral, fn_seal_in, sh_seal_in, fn__law_well, sh__law_well, fn__law_take, sh__law_take, fn__law_line, sh__law_line, fn__law_seal, sh__law_seal, fn__law_left, sh__law_left, fn_is_between, sh_is_between, fn_is_short_path, sh_is_short_path, fn_words_behind, sh_words_behind, fn__law_one, sh__law_one, fn__law_sealed, sh__law_sealed, fn_is_address, sh_is_address, fn_check_number, sh_check_number, fn_is_moment, sh_is_moment, fn_line_of, sh_line_of, fn__law_name, sh__law_name, fn__law_path, sh__law_path, fn__law_answer, sh__law_answer, fn__law_deeds, sh__law_deeds, fn_address_in, sh_address_in, fn_are_links, sh_are_links, fn_journal_line, sh_journal_line, fn_is_deed, sh_is_deed, fn__law_spots, sh__law_spots, fn__law_loose_rows, sh__law_loose_rows, fn_is_some_answer, sh_is_some_answer, fn_behind, sh_behind, sh_behind_1, sh_behind_2, sh_behind_3, fn_answer_of, sh_answer_of, fn_is_some_event, sh_is_some_event, fn_event_of, sh_event_of, fn_is_some_row, sh_is_some_row, fn_check_log, sh_check_log, fn_row_in, sh_row_in, fn_row_at, sh_row_at, fn_deeds_of, sh_deeds_of, sh_deeds_of_1, fn_read_journal, sh_read_journal, fn__law_is_kept, sh__law_is_kept, fn__law_right, sh__law_right, gl_ASK, gl_LETTERS, gl_SIGNS, gl_MOST_LETTERS, gl_MOST_SIGNS, gl_MOST_MOMENT, gl_MOST_MARK, gl_MOST_LINKS, gl_MOST_DIGITS, gl_DIGITS, gl_SEALS, ra, setSl, frzS, isiD, hdC, tlC, forC, rf, r_fmts, r_fmti, r_part, r_rpart, r_split, r_join, exists_eq']
  refine ⟨small_log hr.w, ?_⟩
  show ∃ d, atI (PyData.str (kindS r.e) :: evR r.e) 0 = some d ∧ _
  refine evD_at0 ⟨r.a, rfl, hr.a, line_le (by omega), r.e, rfl, hr.e, ?_⟩
  have hb := beh_len hr.e
  refine ⟨line_le (show 3 + ((behL r.e).map stD).length ≤ _ by rw [List.length_map]; omega), ?_⟩
  rw [num_mk, kind_mk, sp_s]
  refine ⟨(wordsL r).map mk, by simp [wordsL], join_ok (b := 52) (by simp [wordsL]; omega) (fun y hy => word_len hr hy) (by omega), ?_⟩
  rw [join_mk]
  exact hk
def WLn (r : Rw) (xs : List TX) (ls : List Ad) (n : Nat) (acc : List FR.D) : Prop := acc = ((ls.take n).map adT).map stD
theorem law__law_line : ∀ ds kd er, ds.length = 1 → sp__law_line ds kd er → wb G er cb__law_line (EdK kd) (startD N__law_line ds) := by
  rintro ds kd er - ⟨r, rfl, hr, hk⟩
  show wb G er cb__law_line (EdK kd) [.d (.tuple [.int (r.w : Nat), adD r.a, .tuple (.str (kindS r.e) :: evR r.e)]), .no, .no, .no, .no, .no]
  have fin : ∀ s5, wb G er (.cons (.ret (.mth .join (.lit (.str " ")) (.cons (.var 4) .nil))) .nil) (EdK kd) [.d (.tuple [.int (r.w : Nat), adD r.a, .tuple (.str (kindS r.e) :: evR r.e)]), .d (.int (r.w : Nat)), .d (adD r.a), .d (.tuple (.str (kindS r.e) :: evR r.e)), .l ((wordsL r).map stD), s5] := fun s5 => by
    simp only [wb, ws, rd, rq, rg, rl, rp, ri, rn, tgt, setAll, wipeL, Lit.d, Src.dat, List.set_cons_zero, List.set_cons_succ, List.getElem?_cons_zero, List.getElem?_cons_succ, List.map_cons, List.map_nil, List.cons_append, List.nil_append, List.append_nil, List.length_cons, List.length_nil, if_true, Bool.false_eq_true, if_false, Option.some.injEq, PyData.int.injEq, PyData.list.injEq, PyData.str.injEq, PyData.bool.injEq, PyData.tuple.injEq, Sl.m.injEq, Sl.l.injEq, Sl.d.injEq, exists_eq_left', exists_eq_left, true_and, r_sS, r_sl, r_sD, r_add, r_adds, r_addl, r_addt, r_sub, r_mul, r_mull, r_mod, r_fdiv, r_pow, r_lt, r_le, r_gt, r_ge, r_eq, r_eqs, r_eqb, r_ne, r_nes, r_neb, r_isN, r_notN, r_tb, r_ti, r_tl, r_tt, r_tn, r_lenl, r_lent, r_lens, r_lenc, r_int, r_intb, r_abs, r_max, r_min, r_tuple, r_tuplet, r_list, r_listt, r_repr, r_str, r_strs, r_all, r_any, r_idxl, r_idxt, r_idxs, r_idxc, r_slcl, r_slct, r_slcs, r_slcc, r_iteml, r_itemt, r_items, r_call, r_in_s, r_key, r_keys, r_count, r_str_ex, r_in_l, r_in_t, Nat.zero_add, Nat.reduceAdd, List.getD_cons_zero, List.getD_cons_succ, r_count, and_true, exists_const, List.length_map, fn_is_name, sh_is_name, fn_is_path, sh_is_path, fn_is_whole, sh_is_whole, fn_is_tuple_up_to, sh_is_tuple_up_to, fn_text_of, sh_text_of, fn_is_numeral, sh_is_numeral, fn_seal_in, sh_seal_in, fn__law_well, sh__law_well, fn__law_take, sh__law_take, fn__law_line, sh__law_line, fn__law_seal, sh__law_seal, fn__law_left, sh__law_left, fn_is_between, sh_is_between, fn_is_short_path, sh_is_short_path, fn_words_behind, sh_words_behind, fn__law_one, sh__law_one, fn__law_sealed, sh__law_sealed, fn_is_address, sh_is_address, fn_check_number, sh_check_number, fn_is_moment, sh_is_moment, fn_line_of, sh_line_of, fn__law_name, sh__law_name, fn__law_path, sh__law_path, fn__law_answer, sh__law_answer, fn__law_deeds, sh__law_deeds, fn_address_in, sh_address_in, fn_are_links, sh_are_links, fn_journal_line, sh_journal_line, fn_is_deed, sh_is_deed, fn__law_spots, sh__law_spots, fn__law_loose_rows, sh__law_loose_rows, fn_is_some_answer, sh_is_some_answer, fn_behind, sh_behind, sh_behind_1, sh_behind_2, sh_behind_3, fn_answer_of, sh_answer_of, fn_is_some_event, sh_is_some_event, fn_event_of, sh_event_of, fn_is_some_row, sh_is_some_row, fn_check_log, sh_check_log, fn_row_in, sh_row_in, fn_row_at, sh_row_at, fn_deeds_of, sh_deeds_of, sh_deeds_of_1, fn_read_journal, sh_read_journal, fn__law_is_kept, sh__law_is_kept, fn__law_right, sh__law_right, gl_ASK, gl_LETTERS, gl_SIGNS, gl_MOST_LETTERS, gl_MOST_SIGNS, gl_MOST_MOMENT, gl_MOST_MARK, gl_MOST_LINKS, gl_MOST_DIGITS, gl_DIGITS, gl_SEALS, ra, setSl, frzS, isiD, hdC, tlC, forC, rf, r_fmts, r_fmti, r_part, r_rpart, r_split, r_join, exists_eq']
    rw [sp_s]
    refine ⟨(wordsL r).map mk, by simp, join_ok (b := 52) (by have := beh_len hr.e; simp [wordsL]; omega) (fun y hy => word_len hr hy) (by omega), ?_⟩
    rw [join_mk]
    exact hk
  rw [show cb__law_line = .cons (hdC cb__law_line) (.cons (hdC (tlC cb__law_line)) (.cons (hdC (tlC (tlC cb__law_line))) (.cons (.ret (.mth .join (.lit (.str " ")) (.cons (.var 4) .nil))) .nil))) from rfl]
  generalize hR : (CB.cons (.ret (.mth .join (.lit (.str " ")) (.cons (.var 4) .nil))) .nil) = R at fin
  unfold cb__law_line
  simp only [wb, ws, rd, rq, rg, rl, rp, ri, rn, tgt, setAll, wipeL, Lit.d, Src.dat, List.set_cons_zero, List.set_cons_succ, List.getElem?_cons_zero, List.getElem?_cons_succ, List.map_cons, List.map_nil, List.cons_append, List.nil_append, List.append_nil, List.length_cons, List.length_nil, if_true, Bool.false_eq_true, if_false, Option.some.injEq, PyData.int.injEq, PyData.list.injEq, PyData.str.injEq, PyData.bool.injEq, PyData.tuple.injEq, Sl.m.injEq, Sl.l.injEq, Sl.d.injEq, exists_eq_left', exists_eq_left, true_and, r_sS, r_sl, r_sD, r_add, r_adds, r_addl, r_addt, r_sub, r_mul, r_mull, r_mod, r_fdiv, r_pow, r_lt, r_le, r_gt, r_ge, r_eq, r_eqs, r_eqb, r_ne, r_nes, r_neb, r_isN, r_notN, r_tb, r_ti, r_tl, r_tt, r_tn, r_lenl, r_lent, r_lens, r_lenc, r_int, r_intb, r_abs, r_max, r_min, r_tuple, r_tuplet, r_list, r_listt, r_repr, r_str, r_strs, r_all, r_any, r_idxl, r_idxt, r_idxs, r_idxc, r_slcl, r_slct, r_slcs, r_slcc, r_iteml, r_itemt, r_items, r_call, r_in_s, r_key, r_keys, r_count, r_str_ex, r_in_l, r_in_t, Nat.zero_add, Nat.reduceAdd, List.getD_cons_zero, List.getD_cons_succ, r_count, and_true, exists_const, List.length_map, fn_is_name, sh_is_name, fn_is_path, sh_is_path, fn_is_whole, sh_is_whole, fn_is_tuple_up_to, sh_is_tuple_up_to, fn_text_of, sh_text_of, fn_is_numeral, sh_is_numeral, fn_seal_in, sh_seal_in, fn__law_well, sh__law_well, fn__law_take, sh__law_take, fn__law_line, sh__law_line, fn__law_seal, sh__law_seal, fn__law_left, sh__law_left, fn_is_between, sh_is_between, fn_is_short_path, sh_is_short_path, fn_words_behind, sh_words_behind, fn__law_one, sh__law_one, fn__law_sealed, sh__law_sealed, fn_is_address, sh_is_address, fn_check_number, sh_check_number, fn_is_moment, sh_is_moment, fn_line_of, sh_line_of, fn__law_name, sh__law_name, fn__law_path, sh__law_path, fn__law_answer, sh__law_answer, fn__law_deeds, sh__law_deeds, fn_address_in, sh_address_in, fn_are_links, sh_are_links, fn_journal_line, sh_journal_line, fn_is_deed, sh_is_deed, fn__law_spots, sh__law_spots, fn__law_loose_rows, sh__law_loose_rows, fn_is_some_answer, sh_is_some_answer, fn_behind, sh_behind, sh_behind_1, sh_behind_2, sh_behind_3, fn_answer_of, sh_answer_of, fn_is_some_event, sh_is_some_event, fn_event_of, sh_event_of, fn_is_some_row, sh_is_some_row, fn_check_log, sh_check_log, fn_row_in, sh_row_in, fn_row_at, sh_row_at, fn_deeds_of, sh_deeds_of, sh_deeds_of_1, fn_read_journal, sh_read_journal, fn__law_is_kept, sh__law_is_kept, fn__law_right, sh__law_right, gl_ASK, gl_LETTERS, gl_SIGNS, gl_MOST_LETTERS, gl_MOST_SIGNS, gl_MOST_MOMENT, gl_MOST_MARK, gl_MOST_LINKS, gl_MOST_DIGITS, gl_DIGITS, gl_SEALS, ra, setSl, frzS, isiD, hdC, tlC, forC, rf, r_fmts, r_fmti, r_part, r_rpart, r_split, r_join, exists_eq']
  refine ⟨small_log hr.w, ?_⟩
  obtain ⟨w, a, e⟩ := r
  have w3 : [PyData.str (Str.ofString (toString (w : Int))), .str (kindS e), stD (adT a)] = [TL.numL w, kindL e, adT a].map stD := by rw [num_mk, kind_mk]; rfl
  refine evD_at0 (ad_cat hr.a ⟨line_le (by omega), evD_at0 ?_⟩)
  rw [r_eqs, k_page]
  refine ⟨_, rfl, ?_⟩
  cases e with
  | page m ls =>
    rw [if_pos (show isPage (.page m ls) = true from rfl)]
    obtain ⟨h1, h2, h3⟩ := hr.e
    refine ⟨.int (m : Nat), rfl, small_log (by omega), line_le (by omega), line_le (by omega), .tuple (ls.map adD), rfl, ?_⟩
    show (ls.map adD).length ≤ 1000000 ∧ _
    rw [List.length_map]
    refine ⟨by omega, WBh ls, rfl, ?_, ?_⟩
    · rintro i d acc hd rfl -
      obtain ⟨a, ha, rfl⟩ := ad_at hd
      refine ad_cat (h3 a (List.mem_of_getElem? ha)) ?_
      unfold WBh
      rw [take_snoc adT ha, List.map_append]
      rfl
    · intro acc hw
      unfold WBh at hw
      rw [List.take_of_length_le (Nat.le_refl _)] at hw
      subst hw
      refine ⟨_, _, rfl, rfl, line_le (by simp; omega), ?_⟩
      have := fin .no
      have e2 : [PyData.str (Str.ofString (toString (w : Int))), .str (kindS (.page m ls)), stD (adT a), .str (Str.ofString (toString (m : Int)))] ++ (ls.map adT).map stD = (wordsL ⟨w, a, .page m ls⟩).map stD := by
        rw [num_mk, num_mk, kind_mk]
        rfl
      rw [← e2] at this
      exact this
  | ask => rw [if_neg (show ¬ isPage .ask = true from Bool.false_ne_true), if_neg (by simp [evR])]; have := fin .no; rw [show (wordsL ⟨w, a, .ask⟩).map stD = _ from w3.symm] at this; exact this
  | lost => rw [if_neg (show ¬ isPage .lost = true from Bool.false_ne_true), if_neg (by simp [evR])]; have := fin .no; rw [show (wordsL ⟨w, a, .lost⟩).map stD = _ from w3.symm] at this; exact this
  | cut => rw [if_neg (show ¬ isPage .cut = true from Bool.false_ne_true), if_neg (by simp [evR])]; have := fin .no; rw [show (wordsL ⟨w, a, .cut⟩).map stD = _ from w3.symm] at this; exact this
  | gone => rw [if_neg (show ¬ isPage .gone = true from Bool.false_ne_true), if_neg (by simp [evR])]; have := fin .no; rw [show (wordsL ⟨w, a, .gone⟩).map stD = _ from w3.symm] at this; exact this
  | moved b =>
    rw [if_neg (show ¬ isPage (.moved b) = true from Bool.false_ne_true), if_pos (by rfl)]
    have hb : AdOk b := hr.e
    have b1 := hb.n1
    have b2 := hb.p1
    refine ⟨by decide, adD b, rfl, _, rfl, adD b, rfl, _, rfl, line_le (show b.1.length + b.2.length ≤ _ by omega), ?_⟩
    rw [mk_app]
    have := fin .no
    rw [show (wordsL ⟨w, a, .moved b⟩).map stD = [PyData.str (Str.ofString (toString (w : Int))), .str (kindS (.moved b)), stD (adT a), stD (adT b)] by rw [num_mk, kind_mk]; rfl] at this
    exact this
  | same b =>
    rw [if_neg (show ¬ isPage (.same b) = true from Bool.false_ne_true), if_pos (by rfl)]
    have hb : AdOk b := hr.e
    have b1 := hb.n1
    have b2 := hb.p1
    refine ⟨by decide, adD b, rfl, _, rfl, adD b, rfl, _, rfl, line_le (show b.1.length + b.2.length ≤ _ by omega), ?_⟩
    rw [mk_app]
    have := fin .no
    rw [show (wordsL ⟨w, a, .same b⟩).map stD = [PyData.str (Str.ofString (toString (w : Int))), .str (kindS (.same b)), stD (adT a), stD (adT b)] by rw [num_mk, kind_mk]; rfl] at this
    exact this
end K47

namespace K47
open PySem L2 PyProof.Rows FR
theorem line_small {l : TX} (h1 : l.length ≤ 100000) (h2 : ∀ c ∈ l, c = 10 ∨ (32 ≤ c ∧ c ≤ 126)) : small l := ⟨h1, fun c hc => by have := h2 c hc; omega⟩
theorem head_small {k : Nat} {r : Rw} (h : RwOk r) (hk : k ≤ 1000) : small (headL k r) := line_small (by have := head_len h (k := k) (by omega); omega) fun c hc => by have := head_sg h c hc; omega
theorem head_mk (k : Nat) (r : Rw) : (mk (TL.numL k) ++ mk [32]) ++ mk (lineL r) = mk (headL k r) := by
  rw [mk_app, mk_app]
  unfold headL
  simp
theorem jl_mk (k : Nat) (r : Rw) : ((mk (headL k r) ++ mk [32]) ++ mk (TL.numL (sealN (headL k r)))) ++ mk [10] = mk (jlL k r ++ [10]) := by
  rw [mk_app, mk_app, mk_app]
  unfold jlL
  simp
theorem law__law_sealed : ∀ ds kd er, ds.length = 2 → sp__law_sealed ds kd er → wb G er cb__law_sealed (EdK kd) (startD N__law_sealed ds) := by
  rintro ds kd er - ⟨k, r, rfl, hkk, hr, hk⟩
  show wb G er cb__law_sealed (EdK kd) [.d (.int k), .d (rwD r), .no]
  have h1 := head_len hr (k := k) (by omega)
  have h2 := jl_len hr (k := k) (by omega)
  have h3 := num_len (n := k) (by omega)
  have h4 := (seal_nat (headL k r)).2
  have h5 := num_len (n := sealN (headL k r)) (by omega)
  have h6 := line_len hr
  unfold cb__law_sealed
  simp only [wb, ws, rd, rq, rg, rl, rp, ri, rn, tgt, setAll, wipeL, Lit.d, Src.dat, List.set_cons_zero, List.set_cons_succ, List.getElem?_cons_zero, List.getElem?_cons_succ, List.map_cons, List.map_nil, List.cons_append, List.nil_append, List.append_nil, List.length_cons, List.length_nil, if_true, Bool.false_eq_true, if_false, Option.some.injEq, PyData.int.injEq, PyData.list.injEq, PyData.str.injEq, PyData.bool.injEq, PyData.tuple.injEq, Sl.m.injEq, Sl.l.injEq, Sl.d.injEq, exists_eq_left', exists_eq_left, true_and, r_sS, r_sl, r_sD, r_add, r_adds, r_addl, r_addt, r_sub, r_mul, r_mull, r_mod, r_fdiv, r_pow, r_lt, r_le, r_gt, r_ge, r_eq, r_eqs, r_eqb, r_ne, r_nes, r_neb, r_isN, r_notN, r_tb, r_ti, r_tl, r_tt, r_tn, r_lenl, r_lent, r_lens, r_lenc, r_int, r_intb, r_abs, r_max, r_min, r_tuple, r_tuplet, r_list, r_listt, r_repr, r_str, r_strs, r_all, r_any, r_idxl, r_idxt, r_idxs, r_idxc, r_slcl, r_slct, r_slcs, r_slcc, r_iteml, r_itemt, r_items, r_call, r_in_s, r_key, r_keys, r_count, r_str_ex, r_in_l, r_in_t, Nat.zero_add, Nat.reduceAdd, List.getD_cons_zero, List.getD_cons_succ, r_count, and_true, exists_const, List.length_map, fn_is_name, sh_is_name, fn_is_path, sh_is_path, fn_is_whole, sh_is_whole, fn_is_tuple_up_to, sh_is_tuple_up_to, fn_text_of, sh_text_of, fn_is_numeral, sh_is_numeral, fn_seal_in, sh_seal_in, fn__law_well, sh__law_well, fn__law_take, sh__law_take, fn__law_line, sh__law_line, fn__law_seal, sh__law_seal, fn__law_left, sh__law_left, fn_is_between, sh_is_between, fn_is_short_path, sh_is_short_path, fn_words_behind, sh_words_behind, fn__law_one, sh__law_one, fn__law_sealed, sh__law_sealed, fn_is_address, sh_is_address, fn_check_number, sh_check_number, fn_is_moment, sh_is_moment, fn_line_of, sh_line_of, fn__law_name, sh__law_name, fn__law_path, sh__law_path, fn__law_answer, sh__law_answer, fn__law_deeds, sh__law_deeds, fn_address_in, sh_address_in, fn_are_links, sh_are_links, fn_journal_line, sh_journal_line, fn_is_deed, sh_is_deed, fn__law_spots, sh__law_spots, fn__law_loose_rows, sh__law_loose_rows, fn_is_some_answer, sh_is_some_answer, fn_behind, sh_behind, sh_behind_1, sh_behind_2, sh_behind_3, fn_answer_of, sh_answer_of, fn_is_some_event, sh_is_some_event, fn_event_of, sh_event_of, fn_is_some_row, sh_is_some_row, fn_check_log, sh_check_log, fn_row_in, sh_row_in, fn_row_at, sh_row_at, fn_deeds_of, sh_deeds_of, sh_deeds_of_1, fn_read_journal, sh_read_journal, fn__law_is_kept, sh__law_is_kept, fn__law_right, sh__law_right, gl_ASK, gl_LETTERS, gl_SIGNS, gl_MOST_LETTERS, gl_MOST_SIGNS, gl_MOST_MOMENT, gl_MOST_MARK, gl_MOST_LINKS, gl_MOST_DIGITS, gl_DIGITS, gl_SEALS, ra, setSl, frzS, isiD, hdC, tlC, forC, rf, r_fmts, r_fmti, r_part, r_rpart, r_split, r_join, exists_eq']
  refine ⟨small_log (by omega), ?_⟩
  rw [num_mk, sp_s]
  refine ⟨line_le (show (TL.numL k).length + 1 ≤ _ by omega), r, rfl, hr, ?_⟩
  show _ ∧ _
  refine ⟨line_le (show (mk (TL.numL k) ++ mk [32]).length + (lineL r).length ≤ _ by rw [mk_app, mk_len, List.length_append, List.length_singleton]; omega), ?_⟩
  rw [head_mk]
  refine ⟨line_le (show (headL k r).length + 1 ≤ _ by omega), _, rfl, head_small hr hkk, ?_⟩
  show _ ∧ _
  refine ⟨small_log (by omega), ?_⟩
  rw [num_mk, nl_s]
  refine ⟨line_le (show (mk (headL k r) ++ mk [32]).length + (TL.numL (sealN (headL k r))).length ≤ _ by rw [mk_app, mk_len, List.length_append, List.length_singleton]; omega), line_le (show (mk (headL k r) ++ mk [32] ++ mk (TL.numL (sealN (headL k r)))).length + 1 ≤ _ by rw [mk_app, mk_app, mk_len, List.length_append, List.length_append, List.length_singleton]; omega), ?_⟩
  rw [jl_mk]
  exact hk
theorem nil_app (x : Str) : (⟨#[]⟩ : Str) ++ x = x := str_ext (by show ((#[] : Array Nat) ++ x.cps).toList = _; simp)
theorem law_journal_line : ∀ ds kd er, ds.length = 2 → sp_journal_line ds kd er → wb G er cb_journal_line (EdK kd) (startD N_journal_line ds) := by
  rintro ds kd er - ⟨k, r, rfl, hkk, hr, hk⟩
  show wb G er cb_journal_line (EdK kd) [.d (.int k), .d (rwD r), .no]
  have h1 := head_len hr (k := k) (by omega)
  have h2 := jl_len hr (k := k) (by omega)
  have h3 := num_len (n := k) (by omega)
  have h4 := (seal_nat (headL k r)).2
  have h5 := num_len (n := sealN (headL k r)) (by omega)
  have h6 := line_len hr
  unfold cb_journal_line
  simp only [wb, ws, rd, rq, rg, rl, rp, ri, rn, tgt, setAll, wipeL, Lit.d, Src.dat, List.set_cons_zero, List.set_cons_succ, List.getElem?_cons_zero, List.getElem?_cons_succ, List.map_cons, List.map_nil, List.cons_append, List.nil_append, List.append_nil, List.length_cons, List.length_nil, if_true, Bool.false_eq_true, if_false, Option.some.injEq, PyData.int.injEq, PyData.list.injEq, PyData.str.injEq, PyData.bool.injEq, PyData.tuple.injEq, Sl.m.injEq, Sl.l.injEq, Sl.d.injEq, exists_eq_left', exists_eq_left, true_and, r_sS, r_sl, r_sD, r_add, r_adds, r_addl, r_addt, r_sub, r_mul, r_mull, r_mod, r_fdiv, r_pow, r_lt, r_le, r_gt, r_ge, r_eq, r_eqs, r_eqb, r_ne, r_nes, r_neb, r_isN, r_notN, r_tb, r_ti, r_tl, r_tt, r_tn, r_lenl, r_lent, r_lens, r_lenc, r_int, r_intb, r_abs, r_max, r_min, r_tuple, r_tuplet, r_list, r_listt, r_repr, r_str, r_strs, r_all, r_any, r_idxl, r_idxt, r_idxs, r_idxc, r_slcl, r_slct, r_slcs, r_slcc, r_iteml, r_itemt, r_items, r_call, r_in_s, r_key, r_keys, r_count, r_str_ex, r_in_l, r_in_t, Nat.zero_add, Nat.reduceAdd, List.getD_cons_zero, List.getD_cons_succ, r_count, and_true, exists_const, List.length_map, fn_is_name, sh_is_name, fn_is_path, sh_is_path, fn_is_whole, sh_is_whole, fn_is_tuple_up_to, sh_is_tuple_up_to, fn_text_of, sh_text_of, fn_is_numeral, sh_is_numeral, fn_seal_in, sh_seal_in, fn__law_well, sh__law_well, fn__law_take, sh__law_take, fn__law_line, sh__law_line, fn__law_seal, sh__law_seal, fn__law_left, sh__law_left, fn_is_between, sh_is_between, fn_is_short_path, sh_is_short_path, fn_words_behind, sh_words_behind, fn__law_one, sh__law_one, fn__law_sealed, sh__law_sealed, fn_is_address, sh_is_address, fn_check_number, sh_check_number, fn_is_moment, sh_is_moment, fn_line_of, sh_line_of, fn__law_name, sh__law_name, fn__law_path, sh__law_path, fn__law_answer, sh__law_answer, fn__law_deeds, sh__law_deeds, fn_address_in, sh_address_in, fn_are_links, sh_are_links, fn_journal_line, sh_journal_line, fn_is_deed, sh_is_deed, fn__law_spots, sh__law_spots, fn__law_loose_rows, sh__law_loose_rows, fn_is_some_answer, sh_is_some_answer, fn_behind, sh_behind, sh_behind_1, sh_behind_2, sh_behind_3, fn_answer_of, sh_answer_of, fn_is_some_event, sh_is_some_event, fn_event_of, sh_event_of, fn_is_some_row, sh_is_some_row, fn_check_log, sh_check_log, fn_row_in, sh_row_in, fn_row_at, sh_row_at, fn_deeds_of, sh_deeds_of, sh_deeds_of_1, fn_read_journal, sh_read_journal, fn__law_is_kept, sh__law_is_kept, fn__law_right, sh__law_right, gl_ASK, gl_LETTERS, gl_SIGNS, gl_MOST_LETTERS, gl_MOST_SIGNS, gl_MOST_MOMENT, gl_MOST_MARK, gl_MOST_LINKS, gl_MOST_DIGITS, gl_DIGITS, gl_SEALS, ra, setSl, frzS, isiD, hdC, tlC, forC, rf, r_fmts, r_fmti, r_part, r_rpart, r_split, r_join, exists_eq']
  rw [num_mk, sp_s, nl_s]
  simp only [nil_app]
  have e1 : (mk (TL.numL k) ++ mk [32]).length ≤ 13 := by rw [mk_app, mk_len, List.length_append, List.length_singleton]; omega
  refine ⟨small_log (by omega), line_le (show (TL.numL k).length ≤ _ by omega), line_le (by omega), r, rfl, hr, ?_⟩
  show _ ∧ _
  rw [head_mk]
  have e2 : (mk (headL k r) ++ mk [32]).length ≤ 544 := by rw [mk_app, mk_len, List.length_append, List.length_singleton]; omega
  have e3 : (mk (headL k r) ++ mk [32] ++ mk (TL.numL (sealN (headL k r)))).length ≤ 556 := by rw [mk_app, mk_app, mk_len, List.length_append, List.length_append, List.length_singleton]; omega
  refine ⟨line_le (show (headL k r).length ≤ _ by omega), line_le (show (headL k r).length ≤ _ by omega), line_le (by omega), headL k r, rfl, head_small hr hkk, ?_⟩
  refine ⟨small_log (by omega), ?_⟩
  rw [num_mk]
  show _ ∧ _ ∧ kd (PyData.str (mk (headL k r) ++ mk [32] ++ mk (TL.numL (sealN (headL k r))) ++ mk [10]))
  rw [jl_mk]
  exact ⟨line_le (by omega), line_le (by rw [mk_len, List.length_append, List.length_singleton]; omega), hk⟩
theorem rw_at {rs : List Rw} {i : Nat} {d : FR.D} (h : (enumL 0 (rs.map rwD))[i]? = some d) : ∃ r, rs[i]? = some r ∧ d = .tuple [.int (i : Nat), rwD r] := by
  obtain ⟨y, h1, h2⟩ := enumL_get _ 0 i d h
  rw [List.getElem?_map] at h1
  cases e : rs[i]? with
  | none => rw [e] at h1; cases h1
  | some r =>
    rw [e] at h1
    cases h1
    exact ⟨r, rfl, by rw [h2, Nat.zero_add]⟩
def WLi (rs : List Rw) (n : Nat) (acc : List FR.D) : Prop := acc = ((jlsL 0 rs).take n).map fun l => stD (l ++ [10])
theorem jour_join {rs : List Rw} (hr : ∀ r ∈ rs, RwOk r) (hl : rs.length ≤ 1000) {kd : KD} (hk : kd (stD (jourL rs))) : mthC .join (.str (mk [])) [.list ((jlsL 0 rs).map fun l => stD (l ++ [10]))] kd := by
  rw [r_join]
  refine ⟨((jlsL 0 rs).map (· ++ [10])).map mk, by rw [List.map_map, List.map_map]; rfl, ?_, ?_⟩
  · have h1 := jour_len hr hl
    unfold jourL at h1
    rw [List.length_flatten] at h1
    have e : ((((jlsL 0 rs).map (· ++ [10])).map mk).map (·.length)).sum = (((jlsL 0 rs).map (· ++ [10])).map List.length).sum := by
      rw [List.map_map]
      rfl
    rw [e]
    show _ + _ * 0 ≤ _
    omega
  · rw [join_mk, joinL_nil]
    exact hk
theorem law_is_some_row : ∀ ds kd er, ds.length = 1 → sp_is_some_row ds kd er → wb G er cb_is_some_row (EdK kd) (startD N_is_some_row ds) := by
  rintro ds kd er - ⟨r, rfl, hr, hk⟩
  show wb G er cb_is_some_row (EdK kd) [.d (.tuple [.int (r.w : Nat), adD r.a, evD r.e])]
  unfold cb_is_some_row
  simp only [wb, ws, rd, rq, rg, rl, rp, ri, rn, tgt, setAll, wipeL, Lit.d, Src.dat, List.set_cons_zero, List.set_cons_succ, List.getElem?_cons_zero, List.getElem?_cons_succ, List.map_cons, List.map_nil, List.cons_append, List.nil_append, List.append_nil, List.length_cons, List.length_nil, if_true, Bool.false_eq_true, if_false, Option.some.injEq, PyData.int.injEq, PyData.list.injEq, PyData.str.injEq, PyData.bool.injEq, PyData.tuple.injEq, Sl.m.injEq, Sl.l.injEq, Sl.d.injEq, exists_eq_left', exists_eq_left, true_and, r_sS, r_sl, r_sD, r_add, r_adds, r_addl, r_addt, r_sub, r_mul, r_mull, r_mod, r_fdiv, r_pow, r_lt, r_le, r_gt, r_ge, r_eq, r_eqs, r_eqb, r_ne, r_nes, r_neb, r_isN, r_notN, r_tb, r_ti, r_tl, r_tt, r_tn, r_lenl, r_lent, r_lens, r_lenc, r_int, r_intb, r_abs, r_max, r_min, r_tuple, r_tuplet, r_list, r_listt, r_repr, r_str, r_strs, r_all, r_any, r_idxl, r_idxt, r_idxs, r_idxc, r_slcl, r_slct, r_slcs, r_slcc, r_iteml, r_itemt, r_items, r_call, r_in_s, r_key, r_keys, r_count, r_str_ex, r_in_l, r_in_t, Nat.zero_add, Nat.reduceAdd, List.getD_cons_zero, List.getD_cons_succ, r_count, and_true, exists_const, List.length_map, fn_is_name, sh_is_name, fn_is_path, sh_is_path, fn_is_whole, sh_is_whole, fn_is_tuple_up_to, sh_is_tuple_up_to, fn_text_of, sh_text_of, fn_is_numeral, sh_is_numeral, fn_seal_in, sh_seal_in, fn__law_well, sh__law_well, fn__law_take, sh__law_take, fn__law_line, sh__law_line, fn__law_seal, sh__law_seal, fn__law_left, sh__law_left, fn_is_between, sh_is_between, fn_is_short_path, sh_is_short_path, fn_words_behind, sh_words_behind, fn__law_one, sh__law_one, fn__law_sealed, sh__law_sealed, fn_is_address, sh_is_address, fn_check_number, sh_check_number, fn_is_moment, sh_is_moment, fn_line_of, sh_line_of, fn__law_name, sh__law_name, fn__law_path, sh__law_path, fn__law_answer, sh__law_answer, fn__law_deeds, sh__law_deeds, fn_address_in, sh_address_in, fn_are_links, sh_are_links, fn_journal_line, sh_journal_line, fn_is_deed, sh_is_deed, fn__law_spots, sh__law_spots, fn__law_loose_rows, sh__law_loose_rows, fn_is_some_answer, sh_is_some_answer, fn_behind, sh_behind, sh_behind_1, sh_behind_2, sh_behind_3, fn_answer_of, sh_answer_of, fn_is_some_event, sh_is_some_event, fn_event_of, sh_event_of, fn_is_some_row, sh_is_some_row, fn_check_log, sh_check_log, fn_row_in, sh_row_in, fn_row_at, sh_row_at, fn_deeds_of, sh_deeds_of, sh_deeds_of_1, fn_read_journal, sh_read_journal, fn__law_is_kept, sh__law_is_kept, fn__law_right, sh__law_right, gl_ASK, gl_LETTERS, gl_SIGNS, gl_MOST_LETTERS, gl_MOST_SIGNS, gl_MOST_MOMENT, gl_MOST_MARK, gl_MOST_LINKS, gl_MOST_DIGITS, gl_DIGITS, gl_SEALS, ra, setSl, frzS, isiD, hdC, tlC, forC, rf, r_fmts, r_fmti, r_part, r_rpart, r_split, r_join, exists_eq']
  refine ⟨_, _, _, rfl, true, rfl, ?_⟩
  rw [Bool.not_true, if_neg Bool.false_ne_true]
  refine ⟨_, rfl, r.w, rfl, hr.w, true, rfl, ?_⟩
  rw [if_pos rfl]
  refine ⟨_, rfl, r.a, rfl, hr.a, true, rfl, ?_⟩
  rw [if_pos rfl]
  exact ⟨_, rfl, r.e, rfl, hr.e, hk⟩
def WCk (rs : List Rw) (n : Nat) (δ : List Sl) : Prop := ∃ s t, δ = [.d (rsD rs), s, t]
theorem law_check_log : ∀ ds kd er, ds.length = 1 → sp_check_log ds kd er → wb G er cb_check_log (EdK kd) (startD N_check_log ds) := by
  rintro ds kd er - ⟨rs, rfl, hr, hl, hk⟩
  show wb G er cb_check_log (EdK kd) [.d (rsD rs), .no, .no]
  unfold cb_check_log
  simp only [wb, ws, rd, rq, rg, rl, rp, ri, rn, tgt, setAll, wipeL, Lit.d, Src.dat, List.set_cons_zero, List.set_cons_succ, List.getElem?_cons_zero, List.getElem?_cons_succ, List.map_cons, List.map_nil, List.cons_append, List.nil_append, List.append_nil, List.length_cons, List.length_nil, if_true, Bool.false_eq_true, if_false, Option.some.injEq, PyData.int.injEq, PyData.list.injEq, PyData.str.injEq, PyData.bool.injEq, PyData.tuple.injEq, Sl.m.injEq, Sl.l.injEq, Sl.d.injEq, exists_eq_left', exists_eq_left, true_and, r_sS, r_sl, r_sD, r_add, r_adds, r_addl, r_addt, r_sub, r_mul, r_mull, r_mod, r_fdiv, r_pow, r_lt, r_le, r_gt, r_ge, r_eq, r_eqs, r_eqb, r_ne, r_nes, r_neb, r_isN, r_notN, r_tb, r_ti, r_tl, r_tt, r_tn, r_lenl, r_lent, r_lens, r_lenc, r_int, r_intb, r_abs, r_max, r_min, r_tuple, r_tuplet, r_list, r_listt, r_repr, r_str, r_strs, r_all, r_any, r_idxl, r_idxt, r_idxs, r_idxc, r_slcl, r_slct, r_slcs, r_slcc, r_iteml, r_itemt, r_items, r_call, r_in_s, r_key, r_keys, r_count, r_str_ex, r_in_l, r_in_t, Nat.zero_add, Nat.reduceAdd, List.getD_cons_zero, List.getD_cons_succ, r_count, and_true, exists_const, List.length_map, fn_is_name, sh_is_name, fn_is_path, sh_is_path, fn_is_whole, sh_is_whole, fn_is_tuple_up_to, sh_is_tuple_up_to, fn_text_of, sh_text_of, fn_is_numeral, sh_is_numeral, fn_seal_in, sh_seal_in, fn__law_well, sh__law_well, fn__law_take, sh__law_take, fn__law_line, sh__law_line, fn__law_seal, sh__law_seal, fn__law_left, sh__law_left, fn_is_between, sh_is_between, fn_is_short_path, sh_is_short_path, fn_words_behind, sh_words_behind, fn__law_one, sh__law_one, fn__law_sealed, sh__law_sealed, fn_is_address, sh_is_address, fn_check_number, sh_check_number, fn_is_moment, sh_is_moment, fn_line_of, sh_line_of, fn__law_name, sh__law_name, fn__law_path, sh__law_path, fn__law_answer, sh__law_answer, fn__law_deeds, sh__law_deeds, fn_address_in, sh_address_in, fn_are_links, sh_are_links, fn_journal_line, sh_journal_line, fn_is_deed, sh_is_deed, fn__law_spots, sh__law_spots, fn__law_loose_rows, sh__law_loose_rows, fn_is_some_answer, sh_is_some_answer, fn_behind, sh_behind, sh_behind_1, sh_behind_2, sh_behind_3, fn_answer_of, sh_answer_of, fn_is_some_event, sh_is_some_event, fn_event_of, sh_event_of, fn_is_some_row, sh_is_some_row, fn_check_log, sh_check_log, fn_row_in, sh_row_in, fn_row_at, sh_row_at, fn_deeds_of, sh_deeds_of, sh_deeds_of_1, fn_read_journal, sh_read_journal, fn__law_is_kept, sh__law_is_kept, fn__law_right, sh__law_right, gl_ASK, gl_LETTERS, gl_SIGNS, gl_MOST_LETTERS, gl_MOST_SIGNS, gl_MOST_MOMENT, gl_MOST_MARK, gl_MOST_LINKS, gl_MOST_DIGITS, gl_DIGITS, gl_SEALS, ra, setSl, frzS, isiD, hdC, tlC, forC, rf, r_fmts, r_fmti, r_part, r_rpart, r_split, r_join, exists_eq']
  rw [show (["tuple"].any (tyIs (tyNm (rsD rs)))) = true from rfl, Bool.not_true, if_neg Bool.false_ne_true]
  refine ⟨WCk rs, ⟨_, _, rfl⟩, ?_, fun δ ⟨s, t, e⟩ => hk⟩
  rintro i d δ hd ⟨s, t, rfl⟩
  obtain ⟨r, h1, rfl⟩ := rw_at hd
  refine ⟨_, rfl, ?_⟩
  simp only [wb, ws, rd, rq, rg, rl, rp, ri, rn, tgt, setAll, wipeL, Lit.d, Src.dat, List.set_cons_zero, List.set_cons_succ, List.getElem?_cons_zero, List.getElem?_cons_succ, List.map_cons, List.map_nil, List.cons_append, List.nil_append, List.append_nil, List.length_cons, List.length_nil, if_true, Bool.false_eq_true, if_false, Option.some.injEq, PyData.int.injEq, PyData.list.injEq, PyData.str.injEq, PyData.bool.injEq, PyData.tuple.injEq, Sl.m.injEq, Sl.l.injEq, Sl.d.injEq, exists_eq_left', exists_eq_left, true_and, r_sS, r_sl, r_sD, r_add, r_adds, r_addl, r_addt, r_sub, r_mul, r_mull, r_mod, r_fdiv, r_pow, r_lt, r_le, r_gt, r_ge, r_eq, r_eqs, r_eqb, r_ne, r_nes, r_neb, r_isN, r_notN, r_tb, r_ti, r_tl, r_tt, r_tn, r_lenl, r_lent, r_lens, r_lenc, r_int, r_intb, r_abs, r_max, r_min, r_tuple, r_tuplet, r_list, r_listt, r_repr, r_str, r_strs, r_all, r_any, r_idxl, r_idxt, r_idxs, r_idxc, r_slcl, r_slct, r_slcs, r_slcc, r_iteml, r_itemt, r_items, r_call, r_in_s, r_key, r_keys, r_count, r_str_ex, r_in_l, r_in_t, Nat.zero_add, Nat.reduceAdd, List.getD_cons_zero, List.getD_cons_succ, r_count, and_true, exists_const, List.length_map, fn_is_name, sh_is_name, fn_is_path, sh_is_path, fn_is_whole, sh_is_whole, fn_is_tuple_up_to, sh_is_tuple_up_to, fn_text_of, sh_text_of, fn_is_numeral, sh_is_numeral, fn_seal_in, sh_seal_in, fn__law_well, sh__law_well, fn__law_take, sh__law_take, fn__law_line, sh__law_line, fn__law_seal, sh__law_seal, fn__law_left, sh__law_left, fn_is_between, sh_is_between, fn_is_short_path, sh_is_short_path, fn_words_behind, sh_words_behind, fn__law_one, sh__law_one, fn__law_sealed, sh__law_sealed, fn_is_address, sh_is_address, fn_check_number, sh_check_number, fn_is_moment, sh_is_moment, fn_line_of, sh_line_of, fn__law_name, sh__law_name, fn__law_path, sh__law_path, fn__law_answer, sh__law_answer, fn__law_deeds, sh__law_deeds, fn_address_in, sh_address_in, fn_are_links, sh_are_links, fn_journal_line, sh_journal_line, fn_is_deed, sh_is_deed, fn__law_spots, sh__law_spots, fn__law_loose_rows, sh__law_loose_rows, fn_is_some_answer, sh_is_some_answer, fn_behind, sh_behind, sh_behind_1, sh_behind_2, sh_behind_3, fn_answer_of, sh_answer_of, fn_is_some_event, sh_is_some_event, fn_event_of, sh_event_of, fn_is_some_row, sh_is_some_row, fn_check_log, sh_check_log, fn_row_in, sh_row_in, fn_row_at, sh_row_at, fn_deeds_of, sh_deeds_of, sh_deeds_of_1, fn_read_journal, sh_read_journal, fn__law_is_kept, sh__law_is_kept, fn__law_right, sh__law_right, gl_ASK, gl_LETTERS, gl_SIGNS, gl_MOST_LETTERS, gl_MOST_SIGNS, gl_MOST_MOMENT, gl_MOST_MARK, gl_MOST_LINKS, gl_MOST_DIGITS, gl_DIGITS, gl_SEALS, ra, setSl, frzS, isiD, hdC, tlC, forC, rf, r_fmts, r_fmti, r_part, r_rpart, r_split, r_join, exists_eq']
  exact ⟨r, rfl, hr r (List.mem_of_getElem? h1), true, rfl, _, _, rfl⟩
def isAnsB (e : Ev) : Prop := isAns e
theorem ty_k {e : Ev} : ["str"].any (tyIs (tyNm (PyData.str (kindS e)))) = true := rfl
theorem evR_len (e : Ev) : (evR e).length ≤ 2 := by cases e <;> simp [evR]
theorem law_is_some_answer : ∀ ds kd er, ds.length = 1 → sp_is_some_answer ds kd er → wb G er cb_is_some_answer (EdK kd) (startD N_is_some_answer ds) := by
  rintro ds kd er - ⟨e, rfl, he, ha, hk⟩
  show wb G er cb_is_some_answer (EdK kd) [.d (.tuple (.str (kindS e) :: evR e))]
  have hr := evR_len e
  unfold cb_is_some_answer
  simp only [wb, ws, rd, rq, rg, rl, rp, ri, rn, tgt, setAll, wipeL, Lit.d, Src.dat, List.set_cons_zero, List.set_cons_succ, List.getElem?_cons_zero, List.getElem?_cons_succ, List.map_cons, List.map_nil, List.cons_append, List.nil_append, List.append_nil, List.length_cons, List.length_nil, if_true, Bool.false_eq_true, if_false, Option.some.injEq, PyData.int.injEq, PyData.list.injEq, PyData.str.injEq, PyData.bool.injEq, PyData.tuple.injEq, Sl.m.injEq, Sl.l.injEq, Sl.d.injEq, exists_eq_left', exists_eq_left, true_and, r_sS, r_sl, r_sD, r_add, r_adds, r_addl, r_addt, r_sub, r_mul, r_mull, r_mod, r_fdiv, r_pow, r_lt, r_le, r_gt, r_ge, r_eq, r_eqs, r_eqb, r_ne, r_nes, r_neb, r_isN, r_notN, r_tb, r_ti, r_tl, r_tt, r_tn, r_lenl, r_lent, r_lens, r_lenc, r_int, r_intb, r_abs, r_max, r_min, r_tuple, r_tuplet, r_list, r_listt, r_repr, r_str, r_strs, r_all, r_any, r_idxl, r_idxt, r_idxs, r_idxc, r_slcl, r_slct, r_slcs, r_slcc, r_iteml, r_itemt, r_items, r_call, r_in_s, r_key, r_keys, r_count, r_str_ex, r_in_l, r_in_t, Nat.zero_add, Nat.reduceAdd, List.getD_cons_zero, List.getD_cons_succ, r_count, and_true, exists_const, List.length_map, fn_is_name, sh_is_name, fn_is_path, sh_is_path, fn_is_whole, sh_is_whole, fn_is_tuple_up_to, sh_is_tuple_up_to, fn_text_of, sh_text_of, fn_is_numeral, sh_is_numeral, fn_seal_in, sh_seal_in, fn__law_well, sh__law_well, fn__law_take, sh__law_take, fn__law_line, sh__law_line, fn__law_seal, sh__law_seal, fn__law_left, sh__law_left, fn_is_between, sh_is_between, fn_is_short_path, sh_is_short_path, fn_words_behind, sh_words_behind, fn__law_one, sh__law_one, fn__law_sealed, sh__law_sealed, fn_is_address, sh_is_address, fn_check_number, sh_check_number, fn_is_moment, sh_is_moment, fn_line_of, sh_line_of, fn__law_name, sh__law_name, fn__law_path, sh__law_path, fn__law_answer, sh__law_answer, fn__law_deeds, sh__law_deeds, fn_address_in, sh_address_in, fn_are_links, sh_are_links, fn_journal_line, sh_journal_line, fn_is_deed, sh_is_deed, fn__law_spots, sh__law_spots, fn__law_loose_rows, sh__law_loose_rows, fn_is_some_answer, sh_is_some_answer, fn_behind, sh_behind, sh_behind_1, sh_behind_2, sh_behind_3, fn_answer_of, sh_answer_of, fn_is_some_event, sh_is_some_event, fn_event_of, sh_event_of, fn_is_some_row, sh_is_some_row, fn_check_log, sh_check_log, fn_row_in, sh_row_in, fn_row_at, sh_row_at, fn_deeds_of, sh_deeds_of, sh_deeds_of_1, fn_read_journal, sh_read_journal, fn__law_is_kept, sh__law_is_kept, fn__law_right, sh__law_right, gl_ASK, gl_LETTERS, gl_SIGNS, gl_MOST_LETTERS, gl_MOST_SIGNS, gl_MOST_MOMENT, gl_MOST_MARK, gl_MOST_LINKS, gl_MOST_DIGITS, gl_DIGITS, gl_SEALS, ra, setSl, frzS, isiD, hdC, tlC, forC, rf, r_fmts, r_fmti, r_part, r_rpart, r_split, r_join, exists_eq']
  refine ⟨_, _, _, rfl, true, by rw [decide_eq_true (by rw [List.length_cons]; omega)]; rfl, ?_⟩
  rw [Bool.not_true, if_neg Bool.false_ne_true]
  refine evD_at0 ?_
  refine ⟨true, rfl, ?_⟩
  rw [Bool.not_true, if_neg Bool.false_ne_true]
  refine evD_at0 ?_
  rw [r_eqs, k_gone]
  refine ⟨_, rfl, ?_⟩
  cases e with
  | gone => rw [if_pos (show isGone .gone = true from rfl)]; exact hk
  | ask => exact ha.elim
  | lost => exact ha.elim
  | cut => exact ha.elim
  | moved a =>
    rw [if_neg (show ¬ isGone (.moved a) = true from Bool.false_ne_true)]
    refine evD_at0 ⟨line_le (by omega), ok_ms, ?_⟩
    rw [k_ms, if_pos (show isMS (.moved a) = true from rfl), if_pos (by rfl)]
    exact ⟨adD a, rfl, a, rfl, he, hk⟩
  | same a =>
    rw [if_neg (show ¬ isGone (.same a) = true from Bool.false_ne_true)]
    refine evD_at0 ⟨line_le (by omega), ok_ms, ?_⟩
    rw [k_ms, if_pos (show isMS (.same a) = true from rfl), if_pos (by rfl)]
    exact ⟨adD a, rfl, a, rfl, he, hk⟩
  | page m ls =>
    obtain ⟨h1, h2, h3⟩ := he
    rw [if_neg (show ¬ isGone (.page m ls) = true from Bool.false_ne_true)]
    refine evD_at0 ⟨line_le (by omega), ok_ms, ?_⟩
    rw [k_ms, if_neg (show ¬ isMS (.page m ls) = true from Bool.false_ne_true)]
    refine evD_at0 ?_
    rw [r_eqs, k_page]
    refine ⟨_, rfl, ?_⟩
    rw [if_pos (show isPage (.page m ls) = true from rfl), if_pos (by rfl)]
    refine ⟨_, rfl, _, _, _, rfl, true, by rw [decide_eq_true (by omega)]; rfl, ?_⟩
    rw [if_pos rfl]
    exact ⟨_, rfl, ls, rfl, h2, h3, hk⟩
theorem law_is_some_event : ∀ ds kd er, ds.length = 1 → sp_is_some_event ds kd er → wb G er cb_is_some_event (EdK kd) (startD N_is_some_event ds) := by
  rintro ds kd er - ⟨e, rfl, he, hk⟩
  show wb G er cb_is_some_event (EdK kd) [.d (.tuple (.str (kindS e) :: evR e))]
  have hr := evR_len e
  unfold cb_is_some_event
  simp only [wb, ws, rd, rq, rg, rl, rp, ri, rn, tgt, setAll, wipeL, Lit.d, Src.dat, List.set_cons_zero, List.set_cons_succ, List.getElem?_cons_zero, List.getElem?_cons_succ, List.map_cons, List.map_nil, List.cons_append, List.nil_append, List.append_nil, List.length_cons, List.length_nil, if_true, Bool.false_eq_true, if_false, Option.some.injEq, PyData.int.injEq, PyData.list.injEq, PyData.str.injEq, PyData.bool.injEq, PyData.tuple.injEq, Sl.m.injEq, Sl.l.injEq, Sl.d.injEq, exists_eq_left', exists_eq_left, true_and, r_sS, r_sl, r_sD, r_add, r_adds, r_addl, r_addt, r_sub, r_mul, r_mull, r_mod, r_fdiv, r_pow, r_lt, r_le, r_gt, r_ge, r_eq, r_eqs, r_eqb, r_ne, r_nes, r_neb, r_isN, r_notN, r_tb, r_ti, r_tl, r_tt, r_tn, r_lenl, r_lent, r_lens, r_lenc, r_int, r_intb, r_abs, r_max, r_min, r_tuple, r_tuplet, r_list, r_listt, r_repr, r_str, r_strs, r_all, r_any, r_idxl, r_idxt, r_idxs, r_idxc, r_slcl, r_slct, r_slcs, r_slcc, r_iteml, r_itemt, r_items, r_call, r_in_s, r_key, r_keys, r_count, r_str_ex, r_in_l, r_in_t, Nat.zero_add, Nat.reduceAdd, List.getD_cons_zero, List.getD_cons_succ, r_count, and_true, exists_const, List.length_map, fn_is_name, sh_is_name, fn_is_path, sh_is_path, fn_is_whole, sh_is_whole, fn_is_tuple_up_to, sh_is_tuple_up_to, fn_text_of, sh_text_of, fn_is_numeral, sh_is_numeral, fn_seal_in, sh_seal_in, fn__law_well, sh__law_well, fn__law_take, sh__law_take, fn__law_line, sh__law_line, fn__law_seal, sh__law_seal, fn__law_left, sh__law_left, fn_is_between, sh_is_between, fn_is_short_path, sh_is_short_path, fn_words_behind, sh_words_behind, fn__law_one, sh__law_one, fn__law_sealed, sh__law_sealed, fn_is_address, sh_is_address, fn_check_number, sh_check_number, fn_is_moment, sh_is_moment, fn_line_of, sh_line_of, fn__law_name, sh__law_name, fn__law_path, sh__law_path, fn__law_answer, sh__law_answer, fn__law_deeds, sh__law_deeds, fn_address_in, sh_address_in, fn_are_links, sh_are_links, fn_journal_line, sh_journal_line, fn_is_deed, sh_is_deed, fn__law_spots, sh__law_spots, fn__law_loose_rows, sh__law_loose_rows, fn_is_some_answer, sh_is_some_answer, fn_behind, sh_behind, sh_behind_1, sh_behind_2, sh_behind_3, fn_answer_of, sh_answer_of, fn_is_some_event, sh_is_some_event, fn_event_of, sh_event_of, fn_is_some_row, sh_is_some_row, fn_check_log, sh_check_log, fn_row_in, sh_row_in, fn_row_at, sh_row_at, fn_deeds_of, sh_deeds_of, sh_deeds_of_1, fn_read_journal, sh_read_journal, fn__law_is_kept, sh__law_is_kept, fn__law_right, sh__law_right, gl_ASK, gl_LETTERS, gl_SIGNS, gl_MOST_LETTERS, gl_MOST_SIGNS, gl_MOST_MOMENT, gl_MOST_MARK, gl_MOST_LINKS, gl_MOST_DIGITS, gl_DIGITS, gl_SEALS, ra, setSl, frzS, isiD, hdC, tlC, forC, rf, r_fmts, r_fmti, r_part, r_rpart, r_split, r_join, exists_eq']
  refine ⟨_, _, _, rfl, true, by rw [decide_eq_true (by rw [List.length_cons]; omega)]; rfl, ?_⟩
  rw [Bool.not_true, if_neg Bool.false_ne_true]
  refine evD_at0 ⟨true, rfl, ?_⟩
  rw [Bool.not_true, if_neg Bool.false_ne_true]
  cases hA : isALC e with
  | true =>
    have h2 : evR e = [] := by cases e <;> first | rfl | cases hA
    rw [if_pos (show decide (((evR e).length + 1 : Nat) = (1 : Int)) = true by rw [h2]; rfl)]
    refine evD_at0 ⟨line_le (by omega), ok_alc, ?_⟩
    rw [k_alc, hA, if_pos rfl]
    exact hk
  | false =>
    have h1 : isAns e := by cases e <;> first | trivial | cases hA
    by_cases h : (((evR e).length + 1 : Nat) : Int) = 1
    · rw [if_pos (decide_eq_true h)]
      refine evD_at0 ⟨line_le (by omega), ok_alc, ?_⟩
      rw [k_alc, hA, if_neg Bool.false_ne_true]
      exact ⟨e, rfl, he, h1, hk⟩
    · rw [if_neg (by rw [decide_eq_false h]; exact Bool.false_ne_true), if_neg (by rw [decide_eq_false h]; exact Bool.false_ne_true)]
      exact ⟨e, rfl, he, h1, hk⟩
theorem strsA {l : List TX} (h : ∀ x ∈ l, ∀ c ∈ x, c < 1000000) : FR.plainA (l.map stD) = true ∧ PyData.canLayAll0 (l.map stD) = true ∧ PyData.depthAll (l.map stD) = 0 := by
  induction l with
  | nil => exact ⟨rfl, rfl, rfl⟩
  | cons x l ih =>
    have ih := ih fun y hy => h y (List.mem_cons_of_mem _ hy)
    have hx : PyData.canLay0 (stD x) = true := by
      have := h x List.mem_cons_self
      show PyData.strOk (mk x) = true
      unfold PyData.strOk
      rw [← Array.all_toList, List.all_eq_true]
      intro c hc
      have := this c hc
      exact decide_eq_true (by omega)
    exact ⟨by rw [List.map_cons, FR.plainA, ih.1]; rfl, by rw [List.map_cons, PyData.canLayAll0, ih.2.1, hx]; rfl, by rw [List.map_cons, PyData.depthAll, ih.2.2]; rfl⟩
theorem strsL {l : List TX} (h : ∀ x ∈ l, ∀ c ∈ x, c < 1000000) : FR.plain (.list (l.map stD)) = true ∧ SeqAt.shaped (.list (l.map stD)) = true := by
  obtain ⟨a, b, c⟩ := strsA h
  refine ⟨by rw [FR.plain]; exact a, ?_⟩
  unfold SeqAt.shaped
  rw [Bool.and_eq_true]
  exact ⟨by simpa [PyData.canLay0] using b, decide_eq_true (by rw [PyData.depth, c]; omega)⟩
theorem evW_sg {e : Ev} (he : EvOk e) : ∀ x ∈ kindL e :: behL e, ∀ c ∈ x, c < 1000000 := by
  intro x hx c hc
  rcases List.mem_cons.mp hx with z | z
  · rw [z] at hc; have := kind_sg hc; omega
  · rcases beh_mem he z with ⟨n, rfl⟩ | ⟨a, ha, rfl⟩
    · have := num_sg hc; omega
    · have := ha.sg hc; omega
theorem eqW {e : Ev} (he : EvOk e) {k : KD} : cmpC .eq (evW e) (.list [.str ("gone" : Str)]) k = k (.bool (isGone e)) := by
  have e1 : evW e = .list ((kindL e :: behL e).map stD) := by unfold evW; rw [kind_mk]; rfl
  have e2 : (PyData.list [.str ("gone" : Str)] : FR.D) = .list ([[103, 111, 110, 101]].map stD) := by
    rw [show ("gone" : Str) = mk [103, 111, 110, 101] from kind_mk .gone]; rfl
  have ev : PyData.eqv (evW e) (.list [.str ("gone" : Str)]) = isGone e := by
    unfold evW
    rw [PyData.eqv, PyData.eqvAll, eqv_str, k_gone]
    cases e <;> rfl
  rw [← ev]
  refine propext ⟨fun h => h.2, fun h => ⟨.inr (.inr (.inr ?_)), h⟩⟩
  have l1 := strsL (evW_sg he)
  have l2 := strsL (l := [[103, 111, 110, 101]]) (by intro x hx c hc; rw [List.mem_singleton.mp hx] at hc; simp at hc; omega)
  rw [e1, e2]
  exact ⟨l1.1, l2.1, l1.2, l2.2⟩
theorem ite_of {c : Prop} [Decidable c] {A B : Prop} (h : B → A) (hB : B) : if c then A else B := by
  split
  · exact h hB
  · exact hB
theorem atI_snd {α : Type} {x y : α} {l : List α} : atI (x :: y :: l) 1 = some y := by
  rw [show (1 : Int) = ((1 : Nat) : Int) from rfl, atI_natL]
  rfl
def WAi (ls : List Ad) (n : Nat) (acc : List FR.D) : Prop := acc = (ls.take n).map adD
theorem law_answer_of : ∀ ds kd er, ds.length = 1 → sp_answer_of ds kd er → wb G er cb_answer_of (EdK kd) (startD N_answer_of ds) := by
  rintro ds kd er - ⟨e, rfl, he, ha, hk⟩
  show wb G er cb_answer_of (EdK kd) [.d (evW e), .no, .no]
  have hb := beh_len he
  unfold cb_answer_of
  simp only [wb, ws, rd, rq, rg, rl, rp, ri, rn, tgt, setAll, wipeL, Lit.d, Src.dat, List.set_cons_zero, List.set_cons_succ, List.getElem?_cons_zero, List.getElem?_cons_succ, List.map_cons, List.map_nil, List.cons_append, List.nil_append, List.append_nil, List.length_cons, List.length_nil, if_true, Bool.false_eq_true, if_false, Option.some.injEq, PyData.int.injEq, PyData.list.injEq, PyData.str.injEq, PyData.bool.injEq, PyData.tuple.injEq, Sl.m.injEq, Sl.l.injEq, Sl.d.injEq, exists_eq_left', exists_eq_left, true_and, r_sS, r_sl, r_sD, r_add, r_adds, r_addl, r_addt, r_sub, r_mul, r_mull, r_mod, r_fdiv, r_pow, r_lt, r_le, r_gt, r_ge, r_eq, r_eqs, r_eqb, r_ne, r_nes, r_neb, r_isN, r_notN, r_tb, r_ti, r_tl, r_tt, r_tn, r_lenl, r_lent, r_lens, r_lenc, r_int, r_intb, r_abs, r_max, r_min, r_tuple, r_tuplet, r_list, r_listt, r_repr, r_str, r_strs, r_all, r_any, r_idxl, r_idxt, r_idxs, r_idxc, r_slcl, r_slct, r_slcs, r_slcc, r_iteml, r_itemt, r_items, r_call, r_in_s, r_key, r_keys, r_count, r_str_ex, r_in_l, r_in_t, Nat.zero_add, Nat.reduceAdd, List.getD_cons_zero, List.getD_cons_succ, r_count, and_true, exists_const, List.length_map, fn_is_name, sh_is_name, fn_is_path, sh_is_path, fn_is_whole, sh_is_whole, fn_is_tuple_up_to, sh_is_tuple_up_to, fn_text_of, sh_text_of, fn_is_numeral, sh_is_numeral, fn_seal_in, sh_seal_in, fn__law_well, sh__law_well, fn__law_take, sh__law_take, fn__law_line, sh__law_line, fn__law_seal, sh__law_seal, fn__law_left, sh__law_left, fn_is_between, sh_is_between, fn_is_short_path, sh_is_short_path, fn_words_behind, sh_words_behind, fn__law_one, sh__law_one, fn__law_sealed, sh__law_sealed, fn_is_address, sh_is_address, fn_check_number, sh_check_number, fn_is_moment, sh_is_moment, fn_line_of, sh_line_of, fn__law_name, sh__law_name, fn__law_path, sh__law_path, fn__law_answer, sh__law_answer, fn__law_deeds, sh__law_deeds, fn_address_in, sh_address_in, fn_are_links, sh_are_links, fn_journal_line, sh_journal_line, fn_is_deed, sh_is_deed, fn__law_spots, sh__law_spots, fn__law_loose_rows, sh__law_loose_rows, fn_is_some_answer, sh_is_some_answer, fn_behind, sh_behind, sh_behind_1, sh_behind_2, sh_behind_3, fn_answer_of, sh_answer_of, fn_is_some_event, sh_is_some_event, fn_event_of, sh_event_of, fn_is_some_row, sh_is_some_row, fn_check_log, sh_check_log, fn_row_in, sh_row_in, fn_row_at, sh_row_at, fn_deeds_of, sh_deeds_of, sh_deeds_of_1, fn_read_journal, sh_read_journal, fn__law_is_kept, sh__law_is_kept, fn__law_right, sh__law_right, gl_ASK, gl_LETTERS, gl_SIGNS, gl_MOST_LETTERS, gl_MOST_SIGNS, gl_MOST_MOMENT, gl_MOST_MARK, gl_MOST_LINKS, gl_MOST_DIGITS, gl_DIGITS, gl_SEALS, ra, setSl, frzS, isiD, hdC, tlC, forC, rf, r_fmts, r_fmti, r_part, r_rpart, r_split, r_join, exists_eq']
  refine ⟨line_le (by omega), ?_⟩
  rw [eqW he]
  refine ⟨_, rfl, ?_⟩
  cases e with
  | ask => exact ha.elim
  | lost => exact ha.elim
  | cut => exact ha.elim
  | gone => rw [if_pos (show isGone .gone = true from rfl)]; exact ⟨line_le (by omega), hk⟩
  | moved a =>
    rw [if_neg (show ¬ isGone (.moved a) = true from Bool.false_ne_true)]
    have ad : AdOk a := he
    simp only [wb, ws, rd, rq, rg, rl, rp, ri, rn, tgt, setAll, wipeL, Lit.d, Src.dat, List.set_cons_zero, List.set_cons_succ, List.getElem?_cons_zero, List.getElem?_cons_succ, List.map_cons, List.map_nil, List.cons_append, List.nil_append, List.append_nil, List.length_cons, List.length_nil, if_true, Bool.false_eq_true, if_false, Option.some.injEq, PyData.int.injEq, PyData.list.injEq, PyData.str.injEq, PyData.bool.injEq, PyData.tuple.injEq, Sl.m.injEq, Sl.l.injEq, Sl.d.injEq, exists_eq_left', exists_eq_left, true_and, r_sS, r_sl, r_sD, r_add, r_adds, r_addl, r_addt, r_sub, r_mul, r_mull, r_mod, r_fdiv, r_pow, r_lt, r_le, r_gt, r_ge, r_eq, r_eqs, r_eqb, r_ne, r_nes, r_neb, r_isN, r_notN, r_tb, r_ti, r_tl, r_tt, r_tn, r_lenl, r_lent, r_lens, r_lenc, r_int, r_intb, r_abs, r_max, r_min, r_tuple, r_tuplet, r_list, r_listt, r_repr, r_str, r_strs, r_all, r_any, r_idxl, r_idxt, r_idxs, r_idxc, r_slcl, r_slct, r_slcs, r_slcc, r_iteml, r_itemt, r_items, r_call, r_in_s, r_key, r_keys, r_count, r_str_ex, r_in_l, r_in_t, Nat.zero_add, Nat.reduceAdd, List.getD_cons_zero, List.getD_cons_succ, r_count, and_true, exists_const, List.length_map, fn_is_name, sh_is_name, fn_is_path, sh_is_path, fn_is_whole, sh_is_whole, fn_is_tuple_up_to, sh_is_tuple_up_to, fn_text_of, sh_text_of, fn_is_numeral, sh_is_numeral, fn_seal_in, sh_seal_in, fn__law_well, sh__law_well, fn__law_take, sh__law_take, fn__law_line, sh__law_line, fn__law_seal, sh__law_seal, fn__law_left, sh__law_left, fn_is_between, sh_is_between, fn_is_short_path, sh_is_short_path, fn_words_behind, sh_words_behind, fn__law_one, sh__law_one, fn__law_sealed, sh__law_sealed, fn_is_address, sh_is_address, fn_check_number, sh_check_number, fn_is_moment, sh_is_moment, fn_line_of, sh_line_of, fn__law_name, sh__law_name, fn__law_path, sh__law_path, fn__law_answer, sh__law_answer, fn__law_deeds, sh__law_deeds, fn_address_in, sh_address_in, fn_are_links, sh_are_links, fn_journal_line, sh_journal_line, fn_is_deed, sh_is_deed, fn__law_spots, sh__law_spots, fn__law_loose_rows, sh__law_loose_rows, fn_is_some_answer, sh_is_some_answer, fn_behind, sh_behind, sh_behind_1, sh_behind_2, sh_behind_3, fn_answer_of, sh_answer_of, fn_is_some_event, sh_is_some_event, fn_event_of, sh_event_of, fn_is_some_row, sh_is_some_row, fn_check_log, sh_check_log, fn_row_in, sh_row_in, fn_row_at, sh_row_at, fn_deeds_of, sh_deeds_of, sh_deeds_of_1, fn_read_journal, sh_read_journal, fn__law_is_kept, sh__law_is_kept, fn__law_right, sh__law_right, gl_ASK, gl_LETTERS, gl_SIGNS, gl_MOST_LETTERS, gl_MOST_SIGNS, gl_MOST_MOMENT, gl_MOST_MARK, gl_MOST_LINKS, gl_MOST_DIGITS, gl_DIGITS, gl_SEALS, ra, setSl, frzS, isiD, hdC, tlC, forC, rf, r_fmts, r_fmti, r_part, r_rpart, r_split, r_join, exists_eq', evW, behL]
    rw [if_pos (by decide)]
    refine ⟨_, rfl, line_le (by omega), ok_ms, ?_⟩
    rw [k_ms, if_pos (show isMS (.moved a) = true from rfl)]
    exact ⟨_, rfl, _, rfl, a, rfl, ad, line_le (by omega), .moved a, rfl, he, trivial, true, rfl, hk⟩
  | same a =>
    rw [if_neg (show ¬ isGone (.same a) = true from Bool.false_ne_true)]
    have ad : AdOk a := he
    simp only [wb, ws, rd, rq, rg, rl, rp, ri, rn, tgt, setAll, wipeL, Lit.d, Src.dat, List.set_cons_zero, List.set_cons_succ, List.getElem?_cons_zero, List.getElem?_cons_succ, List.map_cons, List.map_nil, List.cons_append, List.nil_append, List.append_nil, List.length_cons, List.length_nil, if_true, Bool.false_eq_true, if_false, Option.some.injEq, PyData.int.injEq, PyData.list.injEq, PyData.str.injEq, PyData.bool.injEq, PyData.tuple.injEq, Sl.m.injEq, Sl.l.injEq, Sl.d.injEq, exists_eq_left', exists_eq_left, true_and, r_sS, r_sl, r_sD, r_add, r_adds, r_addl, r_addt, r_sub, r_mul, r_mull, r_mod, r_fdiv, r_pow, r_lt, r_le, r_gt, r_ge, r_eq, r_eqs, r_eqb, r_ne, r_nes, r_neb, r_isN, r_notN, r_tb, r_ti, r_tl, r_tt, r_tn, r_lenl, r_lent, r_lens, r_lenc, r_int, r_intb, r_abs, r_max, r_min, r_tuple, r_tuplet, r_list, r_listt, r_repr, r_str, r_strs, r_all, r_any, r_idxl, r_idxt, r_idxs, r_idxc, r_slcl, r_slct, r_slcs, r_slcc, r_iteml, r_itemt, r_items, r_call, r_in_s, r_key, r_keys, r_count, r_str_ex, r_in_l, r_in_t, Nat.zero_add, Nat.reduceAdd, List.getD_cons_zero, List.getD_cons_succ, r_count, and_true, exists_const, List.length_map, fn_is_name, sh_is_name, fn_is_path, sh_is_path, fn_is_whole, sh_is_whole, fn_is_tuple_up_to, sh_is_tuple_up_to, fn_text_of, sh_text_of, fn_is_numeral, sh_is_numeral, fn_seal_in, sh_seal_in, fn__law_well, sh__law_well, fn__law_take, sh__law_take, fn__law_line, sh__law_line, fn__law_seal, sh__law_seal, fn__law_left, sh__law_left, fn_is_between, sh_is_between, fn_is_short_path, sh_is_short_path, fn_words_behind, sh_words_behind, fn__law_one, sh__law_one, fn__law_sealed, sh__law_sealed, fn_is_address, sh_is_address, fn_check_number, sh_check_number, fn_is_moment, sh_is_moment, fn_line_of, sh_line_of, fn__law_name, sh__law_name, fn__law_path, sh__law_path, fn__law_answer, sh__law_answer, fn__law_deeds, sh__law_deeds, fn_address_in, sh_address_in, fn_are_links, sh_are_links, fn_journal_line, sh_journal_line, fn_is_deed, sh_is_deed, fn__law_spots, sh__law_spots, fn__law_loose_rows, sh__law_loose_rows, fn_is_some_answer, sh_is_some_answer, fn_behind, sh_behind, sh_behind_1, sh_behind_2, sh_behind_3, fn_answer_of, sh_answer_of, fn_is_some_event, sh_is_some_event, fn_event_of, sh_event_of, fn_is_some_row, sh_is_some_row, fn_check_log, sh_check_log, fn_row_in, sh_row_in, fn_row_at, sh_row_at, fn_deeds_of, sh_deeds_of, sh_deeds_of_1, fn_read_journal, sh_read_journal, fn__law_is_kept, sh__law_is_kept, fn__law_right, sh__law_right, gl_ASK, gl_LETTERS, gl_SIGNS, gl_MOST_LETTERS, gl_MOST_SIGNS, gl_MOST_MOMENT, gl_MOST_MARK, gl_MOST_LINKS, gl_MOST_DIGITS, gl_DIGITS, gl_SEALS, ra, setSl, frzS, isiD, hdC, tlC, forC, rf, r_fmts, r_fmti, r_part, r_rpart, r_split, r_join, exists_eq', evW, behL]
    rw [if_pos (by decide)]
    refine ⟨_, rfl, line_le (by omega), ok_ms, ?_⟩
    rw [k_ms, if_pos (show isMS (.same a) = true from rfl)]
    exact ⟨_, rfl, _, rfl, a, rfl, ad, line_le (by omega), .same a, rfl, he, trivial, true, rfl, hk⟩
  | page m ls =>
    rw [if_neg (show ¬ isGone (.page m ls) = true from Bool.false_ne_true)]
    obtain ⟨h1, h2, h3⟩ := he
    have hm := num_len (n := m) (by omega)
    simp only [wb, ws, rd, rq, rg, rl, rp, ri, rn, tgt, setAll, wipeL, Lit.d, Src.dat, List.set_cons_zero, List.set_cons_succ, List.getElem?_cons_zero, List.getElem?_cons_succ, List.map_cons, List.map_nil, List.cons_append, List.nil_append, List.append_nil, List.length_cons, List.length_nil, if_true, Bool.false_eq_true, if_false, Option.some.injEq, PyData.int.injEq, PyData.list.injEq, PyData.str.injEq, PyData.bool.injEq, PyData.tuple.injEq, Sl.m.injEq, Sl.l.injEq, Sl.d.injEq, exists_eq_left', exists_eq_left, true_and, r_sS, r_sl, r_sD, r_add, r_adds, r_addl, r_addt, r_sub, r_mul, r_mull, r_mod, r_fdiv, r_pow, r_lt, r_le, r_gt, r_ge, r_eq, r_eqs, r_eqb, r_ne, r_nes, r_neb, r_isN, r_notN, r_tb, r_ti, r_tl, r_tt, r_tn, r_lenl, r_lent, r_lens, r_lenc, r_int, r_intb, r_abs, r_max, r_min, r_tuple, r_tuplet, r_list, r_listt, r_repr, r_str, r_strs, r_all, r_any, r_idxl, r_idxt, r_idxs, r_idxc, r_slcl, r_slct, r_slcs, r_slcc, r_iteml, r_itemt, r_items, r_call, r_in_s, r_key, r_keys, r_count, r_str_ex, r_in_l, r_in_t, Nat.zero_add, Nat.reduceAdd, List.getD_cons_zero, List.getD_cons_succ, r_count, and_true, exists_const, List.length_map, fn_is_name, sh_is_name, fn_is_path, sh_is_path, fn_is_whole, sh_is_whole, fn_is_tuple_up_to, sh_is_tuple_up_to, fn_text_of, sh_text_of, fn_is_numeral, sh_is_numeral, fn_seal_in, sh_seal_in, fn__law_well, sh__law_well, fn__law_take, sh__law_take, fn__law_line, sh__law_line, fn__law_seal, sh__law_seal, fn__law_left, sh__law_left, fn_is_between, sh_is_between, fn_is_short_path, sh_is_short_path, fn_words_behind, sh_words_behind, fn__law_one, sh__law_one, fn__law_sealed, sh__law_sealed, fn_is_address, sh_is_address, fn_check_number, sh_check_number, fn_is_moment, sh_is_moment, fn_line_of, sh_line_of, fn__law_name, sh__law_name, fn__law_path, sh__law_path, fn__law_answer, sh__law_answer, fn__law_deeds, sh__law_deeds, fn_address_in, sh_address_in, fn_are_links, sh_are_links, fn_journal_line, sh_journal_line, fn_is_deed, sh_is_deed, fn__law_spots, sh__law_spots, fn__law_loose_rows, sh__law_loose_rows, fn_is_some_answer, sh_is_some_answer, fn_behind, sh_behind, sh_behind_1, sh_behind_2, sh_behind_3, fn_answer_of, sh_answer_of, fn_is_some_event, sh_is_some_event, fn_event_of, sh_event_of, fn_is_some_row, sh_is_some_row, fn_check_log, sh_check_log, fn_row_in, sh_row_in, fn_row_at, sh_row_at, fn_deeds_of, sh_deeds_of, sh_deeds_of_1, fn_read_journal, sh_read_journal, fn__law_is_kept, sh__law_is_kept, fn__law_right, sh__law_right, gl_ASK, gl_LETTERS, gl_SIGNS, gl_MOST_LETTERS, gl_MOST_SIGNS, gl_MOST_MOMENT, gl_MOST_MARK, gl_MOST_LINKS, gl_MOST_DIGITS, gl_DIGITS, gl_SEALS, ra, setSl, frzS, isiD, hdC, tlC, forC, rf, r_fmts, r_fmti, r_part, r_rpart, r_split, r_join, exists_eq', evW, behL]
    refine ite_of (fun t => ⟨_, atI_head, line_le (by omega), ok_ms, by rw [k_ms, if_neg (show ¬ isMS (.page m ls) = true from Bool.false_ne_true)]; exact t⟩) ?_
    rw [if_pos (decide_eq_true (by omega)), if_pos (decide_eq_true (by omega))]
    refine ⟨_, atI_head, ?_⟩
    rw [r_eqs, k_page]
    refine ⟨_, rfl, ?_⟩
    rw [if_pos (show isPage (.page m ls) = true from rfl)]
    refine ⟨_, atI_snd, m, rfl, by omega, true, rfl, ?_⟩
    rw [if_pos rfl]
    refine ⟨_, atI_snd, (m : Int), by rw [← num_mk]; exact TL.int_num (by omega), by show (TL.numL m).length ≤ 640; omega, ?_⟩
    have ec : cutL (PyData.str (kindS (.page m ls)) :: stD (TL.numL m) :: (ls.map adT).map stD) (some 2) none = (ls.map adT).map stD := by
      rw [show (some (2 : Int)) = some ((2 : Nat) : Int) from rfl, cutL_from]
      rfl
    rw [ec]
    refine ⟨by rw [List.length_map, List.length_map]; omega, WAi ls, rfl, ?_, ?_⟩
    · rintro i d acc hd rfl -
      rw [List.getElem?_map, List.getElem?_map] at hd
      cases e : ls[i]? with
      | none => rw [e] at hd; cases hd
      | some a =>
        rw [e] at hd
        cases hd
        refine ⟨a, rfl, h3 a (List.mem_of_getElem? e), ?_⟩
        unfold WAi
        rw [take_snoc adD e]
    · intro acc hw
      unfold WAi at hw
      rw [List.take_of_length_le (by rw [List.length_map, List.length_map]; exact Nat.le_refl _)] at hw
      subst hw
      exact ⟨line_le (by omega), .page m ls, rfl, ⟨h1, h2, h3⟩, trivial, true, rfl, hk⟩
theorem atI_thd {α : Type} {x y z : α} {l : List α} : atI (x :: y :: z :: l) 2 = some z := by
  rw [show (2 : Int) = ((2 : Nat) : Int) from rfl, atI_natL]
  rfl
theorem law_event_of : ∀ ds kd er, ds.length = 1 → sp_event_of ds kd er → wb G er cb_event_of (EdK kd) (startD N_event_of ds) := by
  rintro ds kd er - ⟨e, rfl, he, hk⟩
  show wb G er cb_event_of (EdK kd) [.d (evW e)]
  unfold cb_event_of
  simp only [wb, ws, rd, rq, rg, rl, rp, ri, rn, tgt, setAll, wipeL, Lit.d, Src.dat, List.set_cons_zero, List.set_cons_succ, List.getElem?_cons_zero, List.getElem?_cons_succ, List.map_cons, List.map_nil, List.cons_append, List.nil_append, List.append_nil, List.length_cons, List.length_nil, if_true, Bool.false_eq_true, if_false, Option.some.injEq, PyData.int.injEq, PyData.list.injEq, PyData.str.injEq, PyData.bool.injEq, PyData.tuple.injEq, Sl.m.injEq, Sl.l.injEq, Sl.d.injEq, exists_eq_left', exists_eq_left, true_and, r_sS, r_sl, r_sD, r_add, r_adds, r_addl, r_addt, r_sub, r_mul, r_mull, r_mod, r_fdiv, r_pow, r_lt, r_le, r_gt, r_ge, r_eq, r_eqs, r_eqb, r_ne, r_nes, r_neb, r_isN, r_notN, r_tb, r_ti, r_tl, r_tt, r_tn, r_lenl, r_lent, r_lens, r_lenc, r_int, r_intb, r_abs, r_max, r_min, r_tuple, r_tuplet, r_list, r_listt, r_repr, r_str, r_strs, r_all, r_any, r_idxl, r_idxt, r_idxs, r_idxc, r_slcl, r_slct, r_slcs, r_slcc, r_iteml, r_itemt, r_items, r_call, r_in_s, r_key, r_keys, r_count, r_str_ex, r_in_l, r_in_t, Nat.zero_add, Nat.reduceAdd, List.getD_cons_zero, List.getD_cons_succ, r_count, and_true, exists_const, List.length_map, fn_is_name, sh_is_name, fn_is_path, sh_is_path, fn_is_whole, sh_is_whole, fn_is_tuple_up_to, sh_is_tuple_up_to, fn_text_of, sh_text_of, fn_is_numeral, sh_is_numeral, fn_seal_in, sh_seal_in, fn__law_well, sh__law_well, fn__law_take, sh__law_take, fn__law_line, sh__law_line, fn__law_seal, sh__law_seal, fn__law_left, sh__law_left, fn_is_between, sh_is_between, fn_is_short_path, sh_is_short_path, fn_words_behind, sh_words_behind, fn__law_one, sh__law_one, fn__law_sealed, sh__law_sealed, fn_is_address, sh_is_address, fn_check_number, sh_check_number, fn_is_moment, sh_is_moment, fn_line_of, sh_line_of, fn__law_name, sh__law_name, fn__law_path, sh__law_path, fn__law_answer, sh__law_answer, fn__law_deeds, sh__law_deeds, fn_address_in, sh_address_in, fn_are_links, sh_are_links, fn_journal_line, sh_journal_line, fn_is_deed, sh_is_deed, fn__law_spots, sh__law_spots, fn__law_loose_rows, sh__law_loose_rows, fn_is_some_answer, sh_is_some_answer, fn_behind, sh_behind, sh_behind_1, sh_behind_2, sh_behind_3, fn_answer_of, sh_answer_of, fn_is_some_event, sh_is_some_event, fn_event_of, sh_event_of, fn_is_some_row, sh_is_some_row, fn_check_log, sh_check_log, fn_row_in, sh_row_in, fn_row_at, sh_row_at, fn_deeds_of, sh_deeds_of, sh_deeds_of_1, fn_read_journal, sh_read_journal, fn__law_is_kept, sh__law_is_kept, fn__law_right, sh__law_right, gl_ASK, gl_LETTERS, gl_SIGNS, gl_MOST_LETTERS, gl_MOST_SIGNS, gl_MOST_MOMENT, gl_MOST_MARK, gl_MOST_LINKS, gl_MOST_DIGITS, gl_DIGITS, gl_SEALS, ra, setSl, frzS, isiD, hdC, tlC, forC, rf, r_fmts, r_fmti, r_part, r_rpart, r_split, r_join, exists_eq', evW]
  cases hA : isALC e with
  | true =>
    have h2 : behL e = [] := by cases e <;> first | rfl | cases hA
    have h3 : evR e = [] := by cases e <;> first | rfl | cases hA
    unfold evD at hk
    rw [h3] at hk
    rw [if_pos (show decide (((behL e).length + 1 : Nat) = (1 : Int)) = true by rw [h2]; rfl)]
    refine ⟨_, atI_head, line_le (by omega), ok_alc, ?_⟩
    rw [k_alc, hA, if_pos rfl]
    exact ⟨_, atI_head, line_le (by omega), hk⟩
  | false =>
    have h1 : isAns e := by cases e <;> first | trivial | cases hA
    refine ite_of (fun t => ⟨_, atI_head, line_le (by omega), ok_alc, by rw [k_alc, hA, if_neg Bool.false_ne_true]; exact t⟩) ⟨e, rfl, he, h1, hk⟩
theorem law_row_in : ∀ ds kd er, ds.length = 1 → sp_row_in ds kd er → wb G er cb_row_in (EdK kd) (startD N_row_in ds) := by
  rintro ds kd er - ⟨r, rfl, hr, hk⟩
  show wb G er cb_row_in (EdK kd) [.d (stD (lineL r)), .no, .no, .no]
  have hl := line_len hr
  have hb := beh_len hr.e
  have hw := num_len hr.w
  unfold cb_row_in
  simp only [wb, ws, rd, rq, rg, rl, rp, ri, rn, tgt, setAll, wipeL, Lit.d, Src.dat, List.set_cons_zero, List.set_cons_succ, List.getElem?_cons_zero, List.getElem?_cons_succ, List.map_cons, List.map_nil, List.cons_append, List.nil_append, List.append_nil, List.length_cons, List.length_nil, if_true, Bool.false_eq_true, if_false, Option.some.injEq, PyData.int.injEq, PyData.list.injEq, PyData.str.injEq, PyData.bool.injEq, PyData.tuple.injEq, Sl.m.injEq, Sl.l.injEq, Sl.d.injEq, exists_eq_left', exists_eq_left, true_and, r_sS, r_sl, r_sD, r_add, r_adds, r_addl, r_addt, r_sub, r_mul, r_mull, r_mod, r_fdiv, r_pow, r_lt, r_le, r_gt, r_ge, r_eq, r_eqs, r_eqb, r_ne, r_nes, r_neb, r_isN, r_notN, r_tb, r_ti, r_tl, r_tt, r_tn, r_lenl, r_lent, r_lens, r_lenc, r_int, r_intb, r_abs, r_max, r_min, r_tuple, r_tuplet, r_list, r_listt, r_repr, r_str, r_strs, r_all, r_any, r_idxl, r_idxt, r_idxs, r_idxc, r_slcl, r_slct, r_slcs, r_slcc, r_iteml, r_itemt, r_items, r_call, r_in_s, r_key, r_keys, r_count, r_str_ex, r_in_l, r_in_t, Nat.zero_add, Nat.reduceAdd, List.getD_cons_zero, List.getD_cons_succ, r_count, and_true, exists_const, List.length_map, fn_is_name, sh_is_name, fn_is_path, sh_is_path, fn_is_whole, sh_is_whole, fn_is_tuple_up_to, sh_is_tuple_up_to, fn_text_of, sh_text_of, fn_is_numeral, sh_is_numeral, fn_seal_in, sh_seal_in, fn__law_well, sh__law_well, fn__law_take, sh__law_take, fn__law_line, sh__law_line, fn__law_seal, sh__law_seal, fn__law_left, sh__law_left, fn_is_between, sh_is_between, fn_is_short_path, sh_is_short_path, fn_words_behind, sh_words_behind, fn__law_one, sh__law_one, fn__law_sealed, sh__law_sealed, fn_is_address, sh_is_address, fn_check_number, sh_check_number, fn_is_moment, sh_is_moment, fn_line_of, sh_line_of, fn__law_name, sh__law_name, fn__law_path, sh__law_path, fn__law_answer, sh__law_answer, fn__law_deeds, sh__law_deeds, fn_address_in, sh_address_in, fn_are_links, sh_are_links, fn_journal_line, sh_journal_line, fn_is_deed, sh_is_deed, fn__law_spots, sh__law_spots, fn__law_loose_rows, sh__law_loose_rows, fn_is_some_answer, sh_is_some_answer, fn_behind, sh_behind, sh_behind_1, sh_behind_2, sh_behind_3, fn_answer_of, sh_answer_of, fn_is_some_event, sh_is_some_event, fn_event_of, sh_event_of, fn_is_some_row, sh_is_some_row, fn_check_log, sh_check_log, fn_row_in, sh_row_in, fn_row_at, sh_row_at, fn_deeds_of, sh_deeds_of, sh_deeds_of_1, fn_read_journal, sh_read_journal, fn__law_is_kept, sh__law_is_kept, fn__law_right, sh__law_right, gl_ASK, gl_LETTERS, gl_SIGNS, gl_MOST_LETTERS, gl_MOST_SIGNS, gl_MOST_MOMENT, gl_MOST_MARK, gl_MOST_LINKS, gl_MOST_DIGITS, gl_DIGITS, gl_SEALS, ra, setSl, frzS, isiD, hdC, tlC, forC, rf, r_fmts, r_fmti, r_part, r_rpart, r_split, r_join, exists_eq']
  rw [sp_s, line_split hr]
  refine ⟨⟨rfl, line_le (show (lineL r).length + 2 ≤ _ by omega)⟩, ?_⟩
  have ew : List.map PyData.str (List.map mk (wordsL r)) = stD (TL.numL r.w) :: .str (kindS r.e) :: stD (adT r.a) :: (behL r.e).map stD := by
    rw [kind_mk]
    unfold wordsL
    simp
  rw [if_neg (by rw [decide_eq_false (by simp [wordsL]; omega)]; exact Bool.false_ne_true), ew]
  refine ⟨_, atI_head, r.w, rfl, hr.w, true, rfl, ?_⟩
  rw [Bool.not_true, if_neg Bool.false_ne_true]
  have ec : cutL (stD (TL.numL r.w) :: .str (kindS r.e) :: stD (adT r.a) :: (behL r.e).map stD) (some 3) none = (behL r.e).map stD := by
    rw [show (some (3 : Int)) = some ((3 : Nat) : Int) from rfl, cutL_from]
    rfl
  rw [ec]
  refine ⟨_, atI_thd, r.a, rfl, hr.a, _, atI_snd, line_le (by omega), line_le (by rw [List.length_map]; omega), r.e, rfl, hr.e, ?_⟩
  show if noneD (adD r.a) = true then _ else if noneD (evD r.e) = true then _ else _
  rw [if_neg (show ¬ noneD (adD r.a) = true from Bool.false_ne_true), if_neg (show ¬ noneD (evD r.e) = true from Bool.false_ne_true)]
  exact ⟨_, atI_head, (r.w : Int), by rw [← num_mk]; exact TL.int_num (by omega), by show (TL.numL r.w).length ≤ 640; omega, line_le (by omega), hk⟩
theorem law_row_at : ∀ ds kd er, ds.length = 2 → sp_row_at ds kd er → wb G er cb_row_at (EdK kd) (startD N_row_at ds) := by
  rintro ds kd er - ⟨k, r, rfl, hkk, hr, hk⟩
  show wb G er cb_row_at (EdK kd) [.d (stD (jlL k r)), .d (.int k), .no, .no, .no, .no, .no]
  have h1 := head_len hr (k := k) (by omega)
  have h2 := jl_len hr (k := k) (by omega)
  have h4 := (seal_nat (headL k r)).2
  unfold cb_row_at
  simp only [wb, ws, rd, rq, rg, rl, rp, ri, rn, tgt, setAll, wipeL, Lit.d, Src.dat, List.set_cons_zero, List.set_cons_succ, List.getElem?_cons_zero, List.getElem?_cons_succ, List.map_cons, List.map_nil, List.cons_append, List.nil_append, List.append_nil, List.length_cons, List.length_nil, if_true, Bool.false_eq_true, if_false, Option.some.injEq, PyData.int.injEq, PyData.list.injEq, PyData.str.injEq, PyData.bool.injEq, PyData.tuple.injEq, Sl.m.injEq, Sl.l.injEq, Sl.d.injEq, exists_eq_left', exists_eq_left, true_and, r_sS, r_sl, r_sD, r_add, r_adds, r_addl, r_addt, r_sub, r_mul, r_mull, r_mod, r_fdiv, r_pow, r_lt, r_le, r_gt, r_ge, r_eq, r_eqs, r_eqb, r_ne, r_nes, r_neb, r_isN, r_notN, r_tb, r_ti, r_tl, r_tt, r_tn, r_lenl, r_lent, r_lens, r_lenc, r_int, r_intb, r_abs, r_max, r_min, r_tuple, r_tuplet, r_list, r_listt, r_repr, r_str, r_strs, r_all, r_any, r_idxl, r_idxt, r_idxs, r_idxc, r_slcl, r_slct, r_slcs, r_slcc, r_iteml, r_itemt, r_items, r_call, r_in_s, r_key, r_keys, r_count, r_str_ex, r_in_l, r_in_t, Nat.zero_add, Nat.reduceAdd, List.getD_cons_zero, List.getD_cons_succ, r_count, and_true, exists_const, List.length_map, fn_is_name, sh_is_name, fn_is_path, sh_is_path, fn_is_whole, sh_is_whole, fn_is_tuple_up_to, sh_is_tuple_up_to, fn_text_of, sh_text_of, fn_is_numeral, sh_is_numeral, fn_seal_in, sh_seal_in, fn__law_well, sh__law_well, fn__law_take, sh__law_take, fn__law_line, sh__law_line, fn__law_seal, sh__law_seal, fn__law_left, sh__law_left, fn_is_between, sh_is_between, fn_is_short_path, sh_is_short_path, fn_words_behind, sh_words_behind, fn__law_one, sh__law_one, fn__law_sealed, sh__law_sealed, fn_is_address, sh_is_address, fn_check_number, sh_check_number, fn_is_moment, sh_is_moment, fn_line_of, sh_line_of, fn__law_name, sh__law_name, fn__law_path, sh__law_path, fn__law_answer, sh__law_answer, fn__law_deeds, sh__law_deeds, fn_address_in, sh_address_in, fn_are_links, sh_are_links, fn_journal_line, sh_journal_line, fn_is_deed, sh_is_deed, fn__law_spots, sh__law_spots, fn__law_loose_rows, sh__law_loose_rows, fn_is_some_answer, sh_is_some_answer, fn_behind, sh_behind, sh_behind_1, sh_behind_2, sh_behind_3, fn_answer_of, sh_answer_of, fn_is_some_event, sh_is_some_event, fn_event_of, sh_event_of, fn_is_some_row, sh_is_some_row, fn_check_log, sh_check_log, fn_row_in, sh_row_in, fn_row_at, sh_row_at, fn_deeds_of, sh_deeds_of, sh_deeds_of_1, fn_read_journal, sh_read_journal, fn__law_is_kept, sh__law_is_kept, fn__law_right, sh__law_right, gl_ASK, gl_LETTERS, gl_SIGNS, gl_MOST_LETTERS, gl_MOST_SIGNS, gl_MOST_MOMENT, gl_MOST_MARK, gl_MOST_LINKS, gl_MOST_DIGITS, gl_DIGITS, gl_SEALS, ra, setSl, frzS, isiD, hdC, tlC, forC, rf, r_fmts, r_fmti, r_part, r_rpart, r_split, r_join, exists_eq']
  rw [sp_s]
  refine ⟨⟨rfl, line_le (show (jlL k r).length ≤ _ by omega)⟩, ?_⟩
  rw [jl_rpart]
  refine ⟨headL k r, rfl, head_small hr hkk, ?_⟩
  show _ ∧ _
  refine ⟨small_log (by omega), ?_⟩
  rw [num_mk (sealN (headL k r)), num_mk k]
  show cmpC .ne (.str (mk (TL.numL (sealN (headL k r))))) (.str (mk (TL.numL (sealN (headL k r))))) _
  rw [r_nes, decide_eq_true rfl]
  refine ⟨false, rfl, ?_⟩
  rw [if_neg Bool.false_ne_true]
  show (_ ∧ _) ∧ _ ∧ (if decide ((Txt.partition (mk (headL k r)) (mk [32])).1 = mk (TL.numL k)) = true then sp_row_in [.str (Txt.partition (mk (headL k r)) (mk [32])).2.2] kd er else kd .none)
  rw [head_part]
  exact ⟨⟨rfl, line_le (show (headL k r).length ≤ _ by omega)⟩, small_log (by omega), by rw [if_pos (decide_eq_true rfl)]; exact ⟨r, rfl, hr, hk⟩⟩
def WRj (rs : List Rw) (t : TX) (n : Nat) (δ : List Sl) : Prop := ∃ s3 s4, δ = [.d (stD (jourL rs ++ t)), .d (.list ((jlsL 0 rs ++ [t]).map stD)), .l ((rs.take n).map rwD), s3, s4]
theorem law_read_journal : ∀ ds kd er, ds.length = 1 → sp_read_journal ds kd er → wb G er cb_read_journal (EdK kd) (startD N_read_journal ds) := by
  rintro ds kd er - ⟨rs, t, rfl, hr, hl, ht, htl, hk⟩
  show wb G er cb_read_journal (EdK kd) [.d (stD (jourL rs ++ t)), .no, .no, .no, .no]
  have hjl := jour_len hr hl
  have hjb : rs.length * 557 ≤ 1000 * 557 := Nat.mul_le_mul_right _ hl
  unfold cb_read_journal
  simp only [wb, ws, rd, rq, rg, rl, rp, ri, rn, tgt, setAll, wipeL, Lit.d, Src.dat, List.set_cons_zero, List.set_cons_succ, List.getElem?_cons_zero, List.getElem?_cons_succ, List.map_cons, List.map_nil, List.cons_append, List.nil_append, List.append_nil, List.length_cons, List.length_nil, if_true, Bool.false_eq_true, if_false, Option.some.injEq, PyData.int.injEq, PyData.list.injEq, PyData.str.injEq, PyData.bool.injEq, PyData.tuple.injEq, Sl.m.injEq, Sl.l.injEq, Sl.d.injEq, exists_eq_left', exists_eq_left, true_and, r_sS, r_sl, r_sD, r_add, r_adds, r_addl, r_addt, r_sub, r_mul, r_mull, r_mod, r_fdiv, r_pow, r_lt, r_le, r_gt, r_ge, r_eq, r_eqs, r_eqb, r_ne, r_nes, r_neb, r_isN, r_notN, r_tb, r_ti, r_tl, r_tt, r_tn, r_lenl, r_lent, r_lens, r_lenc, r_int, r_intb, r_abs, r_max, r_min, r_tuple, r_tuplet, r_list, r_listt, r_repr, r_str, r_strs, r_all, r_any, r_idxl, r_idxt, r_idxs, r_idxc, r_slcl, r_slct, r_slcs, r_slcc, r_iteml, r_itemt, r_items, r_call, r_in_s, r_key, r_keys, r_count, r_str_ex, r_in_l, r_in_t, Nat.zero_add, Nat.reduceAdd, List.getD_cons_zero, List.getD_cons_succ, r_count, and_true, exists_const, List.length_map, fn_is_name, sh_is_name, fn_is_path, sh_is_path, fn_is_whole, sh_is_whole, fn_is_tuple_up_to, sh_is_tuple_up_to, fn_text_of, sh_text_of, fn_is_numeral, sh_is_numeral, fn_seal_in, sh_seal_in, fn__law_well, sh__law_well, fn__law_take, sh__law_take, fn__law_line, sh__law_line, fn__law_seal, sh__law_seal, fn__law_left, sh__law_left, fn_is_between, sh_is_between, fn_is_short_path, sh_is_short_path, fn_words_behind, sh_words_behind, fn__law_one, sh__law_one, fn__law_sealed, sh__law_sealed, fn_is_address, sh_is_address, fn_check_number, sh_check_number, fn_is_moment, sh_is_moment, fn_line_of, sh_line_of, fn__law_name, sh__law_name, fn__law_path, sh__law_path, fn__law_answer, sh__law_answer, fn__law_deeds, sh__law_deeds, fn_address_in, sh_address_in, fn_are_links, sh_are_links, fn_journal_line, sh_journal_line, fn_is_deed, sh_is_deed, fn__law_spots, sh__law_spots, fn__law_loose_rows, sh__law_loose_rows, fn_is_some_answer, sh_is_some_answer, fn_behind, sh_behind, sh_behind_1, sh_behind_2, sh_behind_3, fn_answer_of, sh_answer_of, fn_is_some_event, sh_is_some_event, fn_event_of, sh_event_of, fn_is_some_row, sh_is_some_row, fn_check_log, sh_check_log, fn_row_in, sh_row_in, fn_row_at, sh_row_at, fn_deeds_of, sh_deeds_of, sh_deeds_of_1, fn_read_journal, sh_read_journal, fn__law_is_kept, sh__law_is_kept, fn__law_right, sh__law_right, gl_ASK, gl_LETTERS, gl_SIGNS, gl_MOST_LETTERS, gl_MOST_SIGNS, gl_MOST_MOMENT, gl_MOST_MARK, gl_MOST_LINKS, gl_MOST_DIGITS, gl_DIGITS, gl_SEALS, ra, setSl, frzS, isiD, hdC, tlC, forC, rf, r_fmts, r_fmti, r_part, r_rpart, r_split, r_join, exists_eq']
  rw [ty_str, Bool.not_true, if_neg Bool.false_ne_true, nl_s, jour_split hr ht]
  refine ⟨⟨rfl, line_le (show (jourL rs ++ t).length + 2 ≤ _ by rw [List.length_append]; omega)⟩, line_le (by omega), ?_⟩
  have el : (List.map mk (jlsL 0 rs ++ [t])).length = rs.length + 1 := by rw [List.length_map, List.length_append, jls_len]; rfl
  rw [el]
  have en : ((rs.length + 1 : Nat) : Int) - 1 = rs.length := by omega
  rw [en]
  refine ⟨⟨by omega, by omega⟩, WRj rs t, ⟨_, _, by rw [List.map_map]; rfl⟩, ?_, ?_⟩
  · rintro i d δ hd ⟨s3, s4, rfl⟩
    obtain ⟨hi, rfl⟩ := rng_at hd
    have hi2 : i < rs.length := by omega
    have h1 : rs[i]? = some rs[i] := List.getElem?_eq_getElem hi2
    have hri := hr rs[i] (List.getElem_mem hi2)
    have ea : atI ((jlsL 0 rs ++ [t]).map stD) (i : Int) = some (stD (jlL i rs[i])) := by
      rw [atI_natL, List.getElem?_map, List.getElem?_append_left (by rw [jls_len]; exact hi2), jls_at, h1, Nat.zero_add]
      rfl
    simp only [wb, ws, rd, rq, rg, rl, rp, ri, rn, tgt, setAll, wipeL, Lit.d, Src.dat, List.set_cons_zero, List.set_cons_succ, List.getElem?_cons_zero, List.getElem?_cons_succ, List.map_cons, List.map_nil, List.cons_append, List.nil_append, List.append_nil, List.length_cons, List.length_nil, if_true, Bool.false_eq_true, if_false, Option.some.injEq, PyData.int.injEq, PyData.list.injEq, PyData.str.injEq, PyData.bool.injEq, PyData.tuple.injEq, Sl.m.injEq, Sl.l.injEq, Sl.d.injEq, exists_eq_left', exists_eq_left, true_and, r_sS, r_sl, r_sD, r_add, r_adds, r_addl, r_addt, r_sub, r_mul, r_mull, r_mod, r_fdiv, r_pow, r_lt, r_le, r_gt, r_ge, r_eq, r_eqs, r_eqb, r_ne, r_nes, r_neb, r_isN, r_notN, r_tb, r_ti, r_tl, r_tt, r_tn, r_lenl, r_lent, r_lens, r_lenc, r_int, r_intb, r_abs, r_max, r_min, r_tuple, r_tuplet, r_list, r_listt, r_repr, r_str, r_strs, r_all, r_any, r_idxl, r_idxt, r_idxs, r_idxc, r_slcl, r_slct, r_slcs, r_slcc, r_iteml, r_itemt, r_items, r_call, r_in_s, r_key, r_keys, r_count, r_str_ex, r_in_l, r_in_t, Nat.zero_add, Nat.reduceAdd, List.getD_cons_zero, List.getD_cons_succ, r_count, and_true, exists_const, List.length_map, fn_is_name, sh_is_name, fn_is_path, sh_is_path, fn_is_whole, sh_is_whole, fn_is_tuple_up_to, sh_is_tuple_up_to, fn_text_of, sh_text_of, fn_is_numeral, sh_is_numeral, fn_seal_in, sh_seal_in, fn__law_well, sh__law_well, fn__law_take, sh__law_take, fn__law_line, sh__law_line, fn__law_seal, sh__law_seal, fn__law_left, sh__law_left, fn_is_between, sh_is_between, fn_is_short_path, sh_is_short_path, fn_words_behind, sh_words_behind, fn__law_one, sh__law_one, fn__law_sealed, sh__law_sealed, fn_is_address, sh_is_address, fn_check_number, sh_check_number, fn_is_moment, sh_is_moment, fn_line_of, sh_line_of, fn__law_name, sh__law_name, fn__law_path, sh__law_path, fn__law_answer, sh__law_answer, fn__law_deeds, sh__law_deeds, fn_address_in, sh_address_in, fn_are_links, sh_are_links, fn_journal_line, sh_journal_line, fn_is_deed, sh_is_deed, fn__law_spots, sh__law_spots, fn__law_loose_rows, sh__law_loose_rows, fn_is_some_answer, sh_is_some_answer, fn_behind, sh_behind, sh_behind_1, sh_behind_2, sh_behind_3, fn_answer_of, sh_answer_of, fn_is_some_event, sh_is_some_event, fn_event_of, sh_event_of, fn_is_some_row, sh_is_some_row, fn_check_log, sh_check_log, fn_row_in, sh_row_in, fn_row_at, sh_row_at, fn_deeds_of, sh_deeds_of, sh_deeds_of_1, fn_read_journal, sh_read_journal, fn__law_is_kept, sh__law_is_kept, fn__law_right, sh__law_right, gl_ASK, gl_LETTERS, gl_SIGNS, gl_MOST_LETTERS, gl_MOST_SIGNS, gl_MOST_MOMENT, gl_MOST_MARK, gl_MOST_LINKS, gl_MOST_DIGITS, gl_DIGITS, gl_SEALS, ra, setSl, frzS, isiD, hdC, tlC, forC, rf, r_fmts, r_fmti, r_part, r_rpart, r_split, r_join, exists_eq']
    refine ⟨_, ea, i, rs[i], rfl, by omega, hri, ?_⟩
    show if noneD (rwD rs[i]) = true then _ else _
    rw [if_neg (show ¬ noneD (rwD rs[i]) = true from Bool.false_ne_true)]
    refine ⟨by rw [List.length_take]; omega, .d (.int (i : Nat)), .d (rwD rs[i]), ?_⟩
    rw [take_snoc rwD h1]
  · rintro δ ⟨s3, s4, rfl⟩
    rw [List.length_range]
    have e2 : ((rs.length : Int)).toNat = rs.length := by omega
    rw [e2, List.take_of_length_le (Nat.le_refl _)]
    simp only [wb, ws, rd, rq, rg, rl, rp, ri, rn, tgt, setAll, wipeL, Lit.d, Src.dat, List.set_cons_zero, List.set_cons_succ, List.getElem?_cons_zero, List.getElem?_cons_succ, List.map_cons, List.map_nil, List.cons_append, List.nil_append, List.append_nil, List.length_cons, List.length_nil, if_true, Bool.false_eq_true, if_false, Option.some.injEq, PyData.int.injEq, PyData.list.injEq, PyData.str.injEq, PyData.bool.injEq, PyData.tuple.injEq, Sl.m.injEq, Sl.l.injEq, Sl.d.injEq, exists_eq_left', exists_eq_left, true_and, r_sS, r_sl, r_sD, r_add, r_adds, r_addl, r_addt, r_sub, r_mul, r_mull, r_mod, r_fdiv, r_pow, r_lt, r_le, r_gt, r_ge, r_eq, r_eqs, r_eqb, r_ne, r_nes, r_neb, r_isN, r_notN, r_tb, r_ti, r_tl, r_tt, r_tn, r_lenl, r_lent, r_lens, r_lenc, r_int, r_intb, r_abs, r_max, r_min, r_tuple, r_tuplet, r_list, r_listt, r_repr, r_str, r_strs, r_all, r_any, r_idxl, r_idxt, r_idxs, r_idxc, r_slcl, r_slct, r_slcs, r_slcc, r_iteml, r_itemt, r_items, r_call, r_in_s, r_key, r_keys, r_count, r_str_ex, r_in_l, r_in_t, Nat.zero_add, Nat.reduceAdd, List.getD_cons_zero, List.getD_cons_succ, r_count, and_true, exists_const, List.length_map, fn_is_name, sh_is_name, fn_is_path, sh_is_path, fn_is_whole, sh_is_whole, fn_is_tuple_up_to, sh_is_tuple_up_to, fn_text_of, sh_text_of, fn_is_numeral, sh_is_numeral, fn_seal_in, sh_seal_in, fn__law_well, sh__law_well, fn__law_take, sh__law_take, fn__law_line, sh__law_line, fn__law_seal, sh__law_seal, fn__law_left, sh__law_left, fn_is_between, sh_is_between, fn_is_short_path, sh_is_short_path, fn_words_behind, sh_words_behind, fn__law_one, sh__law_one, fn__law_sealed, sh__law_sealed, fn_is_address, sh_is_address, fn_check_number, sh_check_number, fn_is_moment, sh_is_moment, fn_line_of, sh_line_of, fn__law_name, sh__law_name, fn__law_path, sh__law_path, fn__law_answer, sh__law_answer, fn__law_deeds, sh__law_deeds, fn_address_in, sh_address_in, fn_are_links, sh_are_links, fn_journal_line, sh_journal_line, fn_is_deed, sh_is_deed, fn__law_spots, sh__law_spots, fn__law_loose_rows, sh__law_loose_rows, fn_is_some_answer, sh_is_some_answer, fn_behind, sh_behind, sh_behind_1, sh_behind_2, sh_behind_3, fn_answer_of, sh_answer_of, fn_is_some_event, sh_is_some_event, fn_event_of, sh_event_of, fn_is_some_row, sh_is_some_row, fn_check_log, sh_check_log, fn_row_in, sh_row_in, fn_row_at, sh_row_at, fn_deeds_of, sh_deeds_of, sh_deeds_of_1, fn_read_journal, sh_read_journal, fn__law_is_kept, sh__law_is_kept, fn__law_right, sh__law_right, gl_ASK, gl_LETTERS, gl_SIGNS, gl_MOST_LETTERS, gl_MOST_SIGNS, gl_MOST_MOMENT, gl_MOST_MARK, gl_MOST_LINKS, gl_MOST_DIGITS, gl_DIGITS, gl_SEALS, ra, setSl, frzS, isiD, hdC, tlC, forC, rf, r_fmts, r_fmti, r_part, r_rpart, r_split, r_join, exists_eq']
    exact hk
end K47

namespace K47
open PySem L2 PyProof.Rows FR
def WSg (P : Nat → Prop) (n : Nat) (acc : List FR.D) : Prop := ∃ l : TX, acc = l.map (fun c => stD [c]) ∧ l.length = n ∧ ∀ c ∈ l, P c
theorem WSg.nil {P : Nat → Prop} : WSg P 0 [] := ⟨[], rfl, rfl, fun c h => nomatch h⟩
theorem WSg.snoc {P : Nat → Prop} {n c : Nat} {acc : List FR.D} (h : WSg P n acc) (hc : P c) : WSg P (n + 1) (acc ++ [stD [c]]) := by
  obtain ⟨l, rfl, hl, hp⟩ := h
  refine ⟨l ++ [c], by rw [List.map_append]; rfl, by rw [List.length_append, hl]; rfl, fun x hx => ?_⟩
  rcases List.mem_append.mp hx with z | z
  · exact hp x z
  · rw [List.mem_singleton.mp z]; exact hc
theorem flat1 : ∀ l : TX, (l.map fun c => [c]).flatten = l
  | [] => rfl
  | c :: l => by rw [List.map_cons, List.flatten_cons, flat1 l]; rfl
theorem sum1 : ∀ l : TX, (((l.map fun c => [c]).map mk).map (·.length)).sum = l.length
  | [] => rfl
  | c :: l => by rw [List.map_cons, List.map_cons, List.map_cons, List.sum_cons, sum1 l, List.length_cons]; show 1 + l.length = _; omega
theorem join_signs {l : TX} (hl : l.length ≤ 100000) {kd : KD} (hk : kd (stD l)) : mthC .join (.str (mk [])) [.list (l.map fun c => stD [c])] kd := by
  rw [r_join]
  refine ⟨(l.map fun c => [c]).map mk, by rw [List.map_map, List.map_map]; rfl, ?_, ?_⟩
  · rw [sum1]
    show _ + _ * 0 ≤ _
    omega
  · rw [join_mk, joinL_nil, flat1]
    exact hk
theorem str_nice {l : TX} {n : Nat} (h : l.length ≤ n) (hs : ∀ c ∈ l, c < 1000000) : Nice 0 (10 * n + 2) (stD l) := by
  refine ⟨rfl, ?_, Nat.le_refl _, rfl, ?_, ?_⟩
  · show PyData.strOk (mk l) = true
    unfold PyData.strOk
    rw [← Array.all_toList, List.all_eq_true]
    intro c hc
    have := hs c hc
    exact decide_eq_true (by omega)
  · show l.all (fun c => decide (c < 4294967296)) = true
    rw [List.all_eq_true]
    intro c hc
    have := hs c hc
    exact decide_eq_true (by omega)
  · show 10 * l.length + 2 ≤ _
    omega
theorem ad_nice {a : Ad} (h : AdOk a) : Nice 1 (2 * (402 + 2) + 3) (adD a) :=
  (NiceA.cons (n := 0) (w := 402) (str_nice (n := 40) (by have := h.n1; omega) fun c hc => by have := h.nm c hc; omega) (.cons (str_nice (n := 40) h.p1 fun c hc => by have := h.sg (List.mem_append.mpr (.inr hc)); omega) .nil)).tuple
theorem in_ok {n w m : Nat} {d : FR.D} {ds : List FR.D} (h : Nice n w d) (h2 : NiceA n w m ds) (hn : n ≤ 60) : inOk d ds := .inr ⟨h.pl, (NiceA.facts h2.at_).1, h.shaped (by omega), h2.list.shaped (by omega)⟩
def MKS : TX := [32, 33, 35, 36, 38, 39, 40, 41, 42, 43, 44, 45, 46, 47, 48, 49, 50, 51, 52, 53, 54, 55, 56, 57, 58, 59, 60, 61, 62, 63, 64, 65, 66, 67, 68, 69, 70, 71, 72, 73, 74, 75, 76, 77, 78, 79, 80, 81, 82, 83, 84, 85, 86, 87, 88, 89, 90, 91, 93, 94, 95, 97, 98, 99, 100, 101, 102, 103, 104, 105, 106, 107, 108, 109, 110, 111, 112, 113, 114, 115, 116, 117, 118, 119, 120, 121, 122, 123, 124, 125, 126]
theorem mk_s : (" !#$&'()*+,-./0123456789:;<=>?@ABCDEFGHIJKLMNOPQRSTUVWXYZ[]^_abcdefghijklmnopqrstuvwxyz{|}~" : Str) = mk MKS := by kernel_rfl
theorem mks_ok : ∀ c ∈ MKS, 32 ≤ c ∧ c ≤ 126 := by decide
theorem lt_ok : ∀ c ∈ LT, 97 ≤ c ∧ c ≤ 122 := by decide
theorem sg_ok : ∀ c ∈ SG, sgn c = true := by decide
theorem p_s0 : ("/" : Str) = mk [47] := by kernel_rfl
theorem p_s1 : ("/a" : Str) = mk [47, 97] := by kernel_rfl
theorem p_s2 : ("/b" : Str) = mk [47, 98] := by kernel_rfl
theorem p_s3 : ("/a/b" : Str) = mk [47, 97, 47, 98] := by kernel_rfl
theorem p_s4 : ("/no" : Str) = mk [47, 110, 111] := by kernel_rfl
theorem p_s5 : ("/no/a" : Str) = mk [47, 110, 111, 47, 97] := by kernel_rfl
theorem p_s6 : ("/x.txt" : Str) = mk [47, 120, 46, 116, 120, 116] := by kernel_rfl
theorem p_s7 : ("/a-b_0" : Str) = mk [47, 97, 45, 98, 95, 48] := by kernel_rfl
theorem paths_ok {x : FR.D} (h : x ∈ [PyData.str (Str.ofString "/"), PyData.str (Str.ofString "/a"), PyData.str (Str.ofString "/b"), PyData.str (Str.ofString "/a/b"), PyData.str (Str.ofString "/no"), PyData.str (Str.ofString "/no/a"), PyData.str (Str.ofString "/x.txt"), PyData.str (Str.ofString "/a-b_0")]) : ∃ l, x = stD l ∧ pathOk l := by
  simp only [List.mem_cons, List.not_mem_nil, or_false] at h
  rcases h with e | e | e | e | e | e | e | e
  · exact ⟨_, e.trans (congrArg PyData.str p_s0), rfl, by decide, by decide⟩
  · exact ⟨_, e.trans (congrArg PyData.str p_s1), rfl, by decide, by decide⟩
  · exact ⟨_, e.trans (congrArg PyData.str p_s2), rfl, by decide, by decide⟩
  · exact ⟨_, e.trans (congrArg PyData.str p_s3), rfl, by decide, by decide⟩
  · exact ⟨_, e.trans (congrArg PyData.str p_s4), rfl, by decide, by decide⟩
  · exact ⟨_, e.trans (congrArg PyData.str p_s5), rfl, by decide, by decide⟩
  · exact ⟨_, e.trans (congrArg PyData.str p_s6), rfl, by decide, by decide⟩
  · exact ⟨_, e.trans (congrArg PyData.str p_s7), rfl, by decide, by decide⟩
theorem ite_of' {c : Prop} [Decidable c] {A B : Prop} (hA : c → A) (hB : ¬ c → B) : if c then A else B := by
  split
  · exact hA (by assumption)
  · exact hB (by assumption)
theorem law__law_name : ∀ ds kd er, ds.length = 1 → sp__law_name ds kd er → wb G er cb__law_name (EdK kd) (startD N__law_name ds) := by
  rintro ds kd er - ⟨rfl, hk⟩
  show wb G er cb__law_name (EdK kd) [.d wellD, .no, .no]
  unfold cb__law_name
  simp only [wb, ws, rd, rq, rg, rl, rp, ri, rn, tgt, setAll, wipeL, Lit.d, Src.dat, List.set_cons_zero, List.set_cons_succ, List.getElem?_cons_zero, List.getElem?_cons_succ, List.map_cons, List.map_nil, List.cons_append, List.nil_append, List.append_nil, List.length_cons, List.length_nil, if_true, Bool.false_eq_true, if_false, Option.some.injEq, PyData.int.injEq, PyData.list.injEq, PyData.str.injEq, PyData.bool.injEq, PyData.tuple.injEq, Sl.m.injEq, Sl.l.injEq, Sl.d.injEq, exists_eq_left', exists_eq_left, true_and, r_sS, r_sl, r_sD, r_add, r_adds, r_addl, r_addt, r_sub, r_mul, r_mull, r_mod, r_fdiv, r_pow, r_lt, r_le, r_gt, r_ge, r_eq, r_eqs, r_eqb, r_ne, r_nes, r_neb, r_isN, r_notN, r_tb, r_ti, r_tl, r_tt, r_tn, r_lenl, r_lent, r_lens, r_lenc, r_int, r_intb, r_abs, r_max, r_min, r_tuple, r_tuplet, r_list, r_listt, r_repr, r_str, r_strs, r_all, r_any, r_idxl, r_idxt, r_idxs, r_idxc, r_slcl, r_slct, r_slcs, r_slcc, r_iteml, r_itemt, r_items, r_call, r_in_s, r_key, r_keys, r_count, r_str_ex, r_in_l, r_in_t, Nat.zero_add, Nat.reduceAdd, List.getD_cons_zero, List.getD_cons_succ, r_count, and_true, exists_const, List.length_map, fn_is_name, sh_is_name, fn_is_path, sh_is_path, fn_is_whole, sh_is_whole, fn_is_tuple_up_to, sh_is_tuple_up_to, fn_text_of, sh_text_of, fn_is_numeral, sh_is_numeral, fn_seal_in, sh_seal_in, fn__law_well, sh__law_well, fn__law_take, sh__law_take, fn__law_line, sh__law_line, fn__law_seal, sh__law_seal, fn__law_left, sh__law_left, fn_is_between, sh_is_between, fn_is_short_path, sh_is_short_path, fn_words_behind, sh_words_behind, fn__law_one, sh__law_one, fn__law_sealed, sh__law_sealed, fn_is_address, sh_is_address, fn_check_number, sh_check_number, fn_is_moment, sh_is_moment, fn_line_of, sh_line_of, fn__law_name, sh__law_name, fn__law_path, sh__law_path, fn__law_answer, sh__law_answer, fn__law_deeds, sh__law_deeds, fn_address_in, sh_address_in, fn_are_links, sh_are_links, fn_journal_line, sh_journal_line, fn_is_deed, sh_is_deed, fn__law_spots, sh__law_spots, fn__law_loose_rows, sh__law_loose_rows, fn_is_some_answer, sh_is_some_answer, fn_behind, sh_behind, sh_behind_1, sh_behind_2, sh_behind_3, fn_answer_of, sh_answer_of, fn_is_some_event, sh_is_some_event, fn_event_of, sh_event_of, fn_is_some_row, sh_is_some_row, fn_check_log, sh_check_log, fn_row_in, sh_row_in, fn_row_at, sh_row_at, fn_deeds_of, sh_deeds_of, sh_deeds_of_1, fn_read_journal, sh_read_journal, fn__law_is_kept, sh__law_is_kept, fn__law_right, sh__law_right, gl_ASK, gl_LETTERS, gl_SIGNS, gl_MOST_LETTERS, gl_MOST_SIGNS, gl_MOST_MOMENT, gl_MOST_MARK, gl_MOST_LINKS, gl_MOST_DIGITS, gl_DIGITS, gl_SEALS, ra, setSl, frzS, isiD, hdC, tlC, forC, rf, r_fmts, r_fmti, r_part, r_rpart, r_split, r_join, exists_eq']
  refine ⟨line_le (by omega), .inl ⟨_, .inr rfl, by simp, by simp, fun x hx => ?_⟩⟩
  obtain ⟨n, rfl, h1, h2⟩ : ∃ n : Nat, x = .int n ∧ 1 ≤ n ∧ n ≤ 12 := by
    simp only [List.mem_cons, List.not_mem_nil, or_false] at hx
    rcases hx with e | e | e | e | e | e
    · exact ⟨1, e, by omega, by omega⟩
    · exact ⟨2, e, by omega, by omega⟩
    · exact ⟨3, e, by omega, by omega⟩
    · exact ⟨4, e, by omega, by omega⟩
    · exact ⟨4, e, by omega, by omega⟩
    · exact ⟨12, e, by omega, by omega⟩
  simp only [wb, ws, rd, rq, rg, rl, rp, ri, rn, tgt, setAll, wipeL, Lit.d, Src.dat, List.set_cons_zero, List.set_cons_succ, List.getElem?_cons_zero, List.getElem?_cons_succ, List.map_cons, List.map_nil, List.cons_append, List.nil_append, List.append_nil, List.length_cons, List.length_nil, if_true, Bool.false_eq_true, if_false, Option.some.injEq, PyData.int.injEq, PyData.list.injEq, PyData.str.injEq, PyData.bool.injEq, PyData.tuple.injEq, Sl.m.injEq, Sl.l.injEq, Sl.d.injEq, exists_eq_left', exists_eq_left, true_and, r_sS, r_sl, r_sD, r_add, r_adds, r_addl, r_addt, r_sub, r_mul, r_mull, r_mod, r_fdiv, r_pow, r_lt, r_le, r_gt, r_ge, r_eq, r_eqs, r_eqb, r_ne, r_nes, r_neb, r_isN, r_notN, r_tb, r_ti, r_tl, r_tt, r_tn, r_lenl, r_lent, r_lens, r_lenc, r_int, r_intb, r_abs, r_max, r_min, r_tuple, r_tuplet, r_list, r_listt, r_repr, r_str, r_strs, r_all, r_any, r_idxl, r_idxt, r_idxs, r_idxc, r_slcl, r_slct, r_slcs, r_slcc, r_iteml, r_itemt, r_items, r_call, r_in_s, r_key, r_keys, r_count, r_str_ex, r_in_l, r_in_t, Nat.zero_add, Nat.reduceAdd, List.getD_cons_zero, List.getD_cons_succ, r_count, and_true, exists_const, List.length_map, fn_is_name, sh_is_name, fn_is_path, sh_is_path, fn_is_whole, sh_is_whole, fn_is_tuple_up_to, sh_is_tuple_up_to, fn_text_of, sh_text_of, fn_is_numeral, sh_is_numeral, fn_seal_in, sh_seal_in, fn__law_well, sh__law_well, fn__law_take, sh__law_take, fn__law_line, sh__law_line, fn__law_seal, sh__law_seal, fn__law_left, sh__law_left, fn_is_between, sh_is_between, fn_is_short_path, sh_is_short_path, fn_words_behind, sh_words_behind, fn__law_one, sh__law_one, fn__law_sealed, sh__law_sealed, fn_is_address, sh_is_address, fn_check_number, sh_check_number, fn_is_moment, sh_is_moment, fn_line_of, sh_line_of, fn__law_name, sh__law_name, fn__law_path, sh__law_path, fn__law_answer, sh__law_answer, fn__law_deeds, sh__law_deeds, fn_address_in, sh_address_in, fn_are_links, sh_are_links, fn_journal_line, sh_journal_line, fn_is_deed, sh_is_deed, fn__law_spots, sh__law_spots, fn__law_loose_rows, sh__law_loose_rows, fn_is_some_answer, sh_is_some_answer, fn_behind, sh_behind, sh_behind_1, sh_behind_2, sh_behind_3, fn_answer_of, sh_answer_of, fn_is_some_event, sh_is_some_event, fn_event_of, sh_event_of, fn_is_some_row, sh_is_some_row, fn_check_log, sh_check_log, fn_row_in, sh_row_in, fn_row_at, sh_row_at, fn_deeds_of, sh_deeds_of, sh_deeds_of_1, fn_read_journal, sh_read_journal, fn__law_is_kept, sh__law_is_kept, fn__law_right, sh__law_right, gl_ASK, gl_LETTERS, gl_SIGNS, gl_MOST_LETTERS, gl_MOST_SIGNS, gl_MOST_MOMENT, gl_MOST_MARK, gl_MOST_LINKS, gl_MOST_DIGITS, gl_DIGITS, gl_SEALS, ra, setSl, frzS, isiD, hdC, tlC, forC, rf, r_fmts, r_fmti, r_part, r_rpart, r_split, r_join, exists_eq']
  rw [no_s, lt_s]
  have key : ∀ acc, WSg (fun c => 97 ≤ c ∧ c ≤ 122) n acc → mthC .join (.str (mk [])) [.list acc] kd := by
    rintro acc ⟨l, rfl, hl, hp⟩
    exact join_signs (by omega) (hk l ⟨by omega, by omega, hp⟩)
  have e2 : ((n : Int)).toNat = n := by omega
  rw [e2, List.length_range]
  refine ⟨⟨by omega, by omega⟩, by omega, WSg (fun c => 97 ≤ c ∧ c ≤ 122), .nil, ?_, fun acc hw => key acc hw⟩
  rintro i d acc hd hw -
  exact .inr ⟨LT, rfl, by decide, by decide, fun c hc => hw.snoc (lt_ok c hc)⟩
theorem law__law_path : ∀ ds kd er, ds.length = 1 → sp__law_path ds kd er → wb G er cb__law_path (EdK kd) (startD N__law_path ds) := by
  rintro ds kd er - ⟨rfl, hk⟩
  show wb G er cb__law_path (EdK kd) [.d wellD, .no, .no]
  unfold cb__law_path
  simp only [wb, ws, rd, rq, rg, rl, rp, ri, rn, tgt, setAll, wipeL, Lit.d, Src.dat, List.set_cons_zero, List.set_cons_succ, List.getElem?_cons_zero, List.getElem?_cons_succ, List.map_cons, List.map_nil, List.cons_append, List.nil_append, List.append_nil, List.length_cons, List.length_nil, if_true, Bool.false_eq_true, if_false, Option.some.injEq, PyData.int.injEq, PyData.list.injEq, PyData.str.injEq, PyData.bool.injEq, PyData.tuple.injEq, Sl.m.injEq, Sl.l.injEq, Sl.d.injEq, exists_eq_left', exists_eq_left, true_and, r_sS, r_sl, r_sD, r_add, r_adds, r_addl, r_addt, r_sub, r_mul, r_mull, r_mod, r_fdiv, r_pow, r_lt, r_le, r_gt, r_ge, r_eq, r_eqs, r_eqb, r_ne, r_nes, r_neb, r_isN, r_notN, r_tb, r_ti, r_tl, r_tt, r_tn, r_lenl, r_lent, r_lens, r_lenc, r_int, r_intb, r_abs, r_max, r_min, r_tuple, r_tuplet, r_list, r_listt, r_repr, r_str, r_strs, r_all, r_any, r_idxl, r_idxt, r_idxs, r_idxc, r_slcl, r_slct, r_slcs, r_slcc, r_iteml, r_itemt, r_items, r_call, r_in_s, r_key, r_keys, r_count, r_str_ex, r_in_l, r_in_t, Nat.zero_add, Nat.reduceAdd, List.getD_cons_zero, List.getD_cons_succ, r_count, and_true, exists_const, List.length_map, fn_is_name, sh_is_name, fn_is_path, sh_is_path, fn_is_whole, sh_is_whole, fn_is_tuple_up_to, sh_is_tuple_up_to, fn_text_of, sh_text_of, fn_is_numeral, sh_is_numeral, fn_seal_in, sh_seal_in, fn__law_well, sh__law_well, fn__law_take, sh__law_take, fn__law_line, sh__law_line, fn__law_seal, sh__law_seal, fn__law_left, sh__law_left, fn_is_between, sh_is_between, fn_is_short_path, sh_is_short_path, fn_words_behind, sh_words_behind, fn__law_one, sh__law_one, fn__law_sealed, sh__law_sealed, fn_is_address, sh_is_address, fn_check_number, sh_check_number, fn_is_moment, sh_is_moment, fn_line_of, sh_line_of, fn__law_name, sh__law_name, fn__law_path, sh__law_path, fn__law_answer, sh__law_answer, fn__law_deeds, sh__law_deeds, fn_address_in, sh_address_in, fn_are_links, sh_are_links, fn_journal_line, sh_journal_line, fn_is_deed, sh_is_deed, fn__law_spots, sh__law_spots, fn__law_loose_rows, sh__law_loose_rows, fn_is_some_answer, sh_is_some_answer, fn_behind, sh_behind, sh_behind_1, sh_behind_2, sh_behind_3, fn_answer_of, sh_answer_of, fn_is_some_event, sh_is_some_event, fn_event_of, sh_event_of, fn_is_some_row, sh_is_some_row, fn_check_log, sh_check_log, fn_row_in, sh_row_in, fn_row_at, sh_row_at, fn_deeds_of, sh_deeds_of, sh_deeds_of_1, fn_read_journal, sh_read_journal, fn__law_is_kept, sh__law_is_kept, fn__law_right, sh__law_right, gl_ASK, gl_LETTERS, gl_SIGNS, gl_MOST_LETTERS, gl_MOST_SIGNS, gl_MOST_MOMENT, gl_MOST_MARK, gl_MOST_LINKS, gl_MOST_DIGITS, gl_DIGITS, gl_SEALS, ra, setSl, frzS, isiD, hdC, tlC, forC, rf, r_fmts, r_fmti, r_part, r_rpart, r_split, r_join, exists_eq']
  refine ⟨3, rfl, by omega, fun a a0 a1 => ?_⟩
  simp only [wb, ws, rd, rq, rg, rl, rp, ri, rn, tgt, setAll, wipeL, Lit.d, Src.dat, List.set_cons_zero, List.set_cons_succ, List.getElem?_cons_zero, List.getElem?_cons_succ, List.map_cons, List.map_nil, List.cons_append, List.nil_append, List.append_nil, List.length_cons, List.length_nil, if_true, Bool.false_eq_true, if_false, Option.some.injEq, PyData.int.injEq, PyData.list.injEq, PyData.str.injEq, PyData.bool.injEq, PyData.tuple.injEq, Sl.m.injEq, Sl.l.injEq, Sl.d.injEq, exists_eq_left', exists_eq_left, true_and, r_sS, r_sl, r_sD, r_add, r_adds, r_addl, r_addt, r_sub, r_mul, r_mull, r_mod, r_fdiv, r_pow, r_lt, r_le, r_gt, r_ge, r_eq, r_eqs, r_eqb, r_ne, r_nes, r_neb, r_isN, r_notN, r_tb, r_ti, r_tl, r_tt, r_tn, r_lenl, r_lent, r_lens, r_lenc, r_int, r_intb, r_abs, r_max, r_min, r_tuple, r_tuplet, r_list, r_listt, r_repr, r_str, r_strs, r_all, r_any, r_idxl, r_idxt, r_idxs, r_idxc, r_slcl, r_slct, r_slcs, r_slcc, r_iteml, r_itemt, r_items, r_call, r_in_s, r_key, r_keys, r_count, r_str_ex, r_in_l, r_in_t, Nat.zero_add, Nat.reduceAdd, List.getD_cons_zero, List.getD_cons_succ, r_count, and_true, exists_const, List.length_map, fn_is_name, sh_is_name, fn_is_path, sh_is_path, fn_is_whole, sh_is_whole, fn_is_tuple_up_to, sh_is_tuple_up_to, fn_text_of, sh_text_of, fn_is_numeral, sh_is_numeral, fn_seal_in, sh_seal_in, fn__law_well, sh__law_well, fn__law_take, sh__law_take, fn__law_line, sh__law_line, fn__law_seal, sh__law_seal, fn__law_left, sh__law_left, fn_is_between, sh_is_between, fn_is_short_path, sh_is_short_path, fn_words_behind, sh_words_behind, fn__law_one, sh__law_one, fn__law_sealed, sh__law_sealed, fn_is_address, sh_is_address, fn_check_number, sh_check_number, fn_is_moment, sh_is_moment, fn_line_of, sh_line_of, fn__law_name, sh__law_name, fn__law_path, sh__law_path, fn__law_answer, sh__law_answer, fn__law_deeds, sh__law_deeds, fn_address_in, sh_address_in, fn_are_links, sh_are_links, fn_journal_line, sh_journal_line, fn_is_deed, sh_is_deed, fn__law_spots, sh__law_spots, fn__law_loose_rows, sh__law_loose_rows, fn_is_some_answer, sh_is_some_answer, fn_behind, sh_behind, sh_behind_1, sh_behind_2, sh_behind_3, fn_answer_of, sh_answer_of, fn_is_some_event, sh_is_some_event, fn_event_of, sh_event_of, fn_is_some_row, sh_is_some_row, fn_check_log, sh_check_log, fn_row_in, sh_row_in, fn_row_at, sh_row_at, fn_deeds_of, sh_deeds_of, sh_deeds_of_1, fn_read_journal, sh_read_journal, fn__law_is_kept, sh__law_is_kept, fn__law_right, sh__law_right, gl_ASK, gl_LETTERS, gl_SIGNS, gl_MOST_LETTERS, gl_MOST_SIGNS, gl_MOST_MOMENT, gl_MOST_MARK, gl_MOST_LINKS, gl_MOST_DIGITS, gl_DIGITS, gl_SEALS, ra, setSl, frzS, isiD, hdC, tlC, forC, rf, r_fmts, r_fmti, r_part, r_rpart, r_split, r_join, exists_eq']
  refine ite_of' (fun _ => ⟨line_le (by omega), .inl ⟨_, .inr rfl, by simp, by simp, fun x hx => ?_⟩⟩) fun _ => ⟨line_le (by omega), .inl ⟨_, .inr rfl, by simp, by simp, fun x hx => ?_⟩⟩
  · obtain ⟨l, rfl, hl⟩ := paths_ok hx
    exact hk l hl
  · obtain ⟨n, rfl, h2⟩ : ∃ n : Nat, x = .int n ∧ n ≤ 39 := by
      simp only [List.mem_cons, List.not_mem_nil, or_false] at hx
      rcases hx with e | e | e | e | e | e | e | e
      · exact ⟨0, e, by omega⟩
      · exact ⟨1, e, by omega⟩
      · exact ⟨1, e, by omega⟩
      · exact ⟨2, e, by omega⟩
      · exact ⟨3, e, by omega⟩
      · exact ⟨5, e, by omega⟩
      · exact ⟨8, e, by omega⟩
      · exact ⟨39, e, by omega⟩
    rw [no_s, sg_s, sl_s]
    have e2 : ((n : Int)).toNat = n := by omega
    refine ⟨n, rfl, ⟨by omega, by omega⟩, ?_⟩
    rw [e2, List.length_range]
    refine ⟨by omega, WSg (fun c => sgn c = true), .nil, ?_, ?_⟩
    · rintro i d acc hd hw -
      exact .inr ⟨SG, rfl, by decide, by decide, fun c hc => hw.snoc (sg_ok c hc)⟩
    · rintro acc ⟨l, rfl, hl, hp⟩
      have fin : kd (.str (mk [47] ++ mk l)) := by
        rw [mk_app]
        refine hk _ ⟨rfl, by simp; omega, fun c hc => ?_⟩
        rcases List.mem_cons.mp hc with z | z
        · rw [z]; rfl
        · exact hp c z
      have h : mthC .join (.str (mk [])) [.list (l.map fun c => stD [c])] (fun x => ∃ y, x = .str y ∧ (mk [47]).length + y.length ≤ sizeLine ∧ kd (.str (mk [47] ++ y))) := join_signs (by omega) ⟨_, rfl, line_le (show 1 + l.length ≤ _ by omega), fin⟩
      rw [r_join] at h
      obtain ⟨ys, h1, h2, y, h3, h4, h5⟩ := h
      cases h3
      exact ⟨ys, h1, h2, h4, h5⟩
def WSp (hs : List TX) (n : Nat) (δ : List Sl) : Prop := ∃ (as : List Ad) (s3 s4 : Sl), δ = [.d wellD, .d (.list (hs.map stD)), .l (as.map adD), s3, s4] ∧ as.length ≤ n ∧ (1 ≤ n → 1 ≤ as.length) ∧ ∀ a ∈ as, AdOk a
theorem ads_nice {as : List Ad} (h : ∀ a ∈ as, AdOk a) : NiceA 1 (2 * (402 + 2) + 3) as.length (as.map adD) := NiceA.map (Nat.le_refl _) fun a ha => ad_nice (h a ha)
theorem law__law_spots : ∀ ds kd er, ds.length = 2 → sp__law_spots ds kd er → wb G er cb__law_spots (EdK kd) (startD N__law_spots ds) := by
  rintro ds kd er - ⟨hs, rfl, hl, hn, hk⟩
  show wb G er cb__law_spots (EdK kd) [.d wellD, .d (.list (hs.map stD)), .no, .no, .no]
  unfold cb__law_spots
  simp only [wb, ws, rd, rq, rg, rl, rp, ri, rn, tgt, setAll, wipeL, Lit.d, Src.dat, List.set_cons_zero, List.set_cons_succ, List.getElem?_cons_zero, List.getElem?_cons_succ, List.map_cons, List.map_nil, List.cons_append, List.nil_append, List.append_nil, List.length_cons, List.length_nil, if_true, Bool.false_eq_true, if_false, Option.some.injEq, PyData.int.injEq, PyData.list.injEq, PyData.str.injEq, PyData.bool.injEq, PyData.tuple.injEq, Sl.m.injEq, Sl.l.injEq, Sl.d.injEq, exists_eq_left', exists_eq_left, true_and, r_sS, r_sl, r_sD, r_add, r_adds, r_addl, r_addt, r_sub, r_mul, r_mull, r_mod, r_fdiv, r_pow, r_lt, r_le, r_gt, r_ge, r_eq, r_eqs, r_eqb, r_ne, r_nes, r_neb, r_isN, r_notN, r_tb, r_ti, r_tl, r_tt, r_tn, r_lenl, r_lent, r_lens, r_lenc, r_int, r_intb, r_abs, r_max, r_min, r_tuple, r_tuplet, r_list, r_listt, r_repr, r_str, r_strs, r_all, r_any, r_idxl, r_idxt, r_idxs, r_idxc, r_slcl, r_slct, r_slcs, r_slcc, r_iteml, r_itemt, r_items, r_call, r_in_s, r_key, r_keys, r_count, r_str_ex, r_in_l, r_in_t, Nat.zero_add, Nat.reduceAdd, List.getD_cons_zero, List.getD_cons_succ, r_count, and_true, exists_const, List.length_map, fn_is_name, sh_is_name, fn_is_path, sh_is_path, fn_is_whole, sh_is_whole, fn_is_tuple_up_to, sh_is_tuple_up_to, fn_text_of, sh_text_of, fn_is_numeral, sh_is_numeral, fn_seal_in, sh_seal_in, fn__law_well, sh__law_well, fn__law_take, sh__law_take, fn__law_line, sh__law_line, fn__law_seal, sh__law_seal, fn__law_left, sh__law_left, fn_is_between, sh_is_between, fn_is_short_path, sh_is_short_path, fn_words_behind, sh_words_behind, fn__law_one, sh__law_one, fn__law_sealed, sh__law_sealed, fn_is_address, sh_is_address, fn_check_number, sh_check_number, fn_is_moment, sh_is_moment, fn_line_of, sh_line_of, fn__law_name, sh__law_name, fn__law_path, sh__law_path, fn__law_answer, sh__law_answer, fn__law_deeds, sh__law_deeds, fn_address_in, sh_address_in, fn_are_links, sh_are_links, fn_journal_line, sh_journal_line, fn_is_deed, sh_is_deed, fn__law_spots, sh__law_spots, fn__law_loose_rows, sh__law_loose_rows, fn_is_some_answer, sh_is_some_answer, fn_behind, sh_behind, sh_behind_1, sh_behind_2, sh_behind_3, fn_answer_of, sh_answer_of, fn_is_some_event, sh_is_some_event, fn_event_of, sh_event_of, fn_is_some_row, sh_is_some_row, fn_check_log, sh_check_log, fn_row_in, sh_row_in, fn_row_at, sh_row_at, fn_deeds_of, sh_deeds_of, sh_deeds_of_1, fn_read_journal, sh_read_journal, fn__law_is_kept, sh__law_is_kept, fn__law_right, sh__law_right, gl_ASK, gl_LETTERS, gl_SIGNS, gl_MOST_LETTERS, gl_MOST_SIGNS, gl_MOST_MOMENT, gl_MOST_MARK, gl_MOST_LINKS, gl_MOST_DIGITS, gl_DIGITS, gl_SEALS, ra, setSl, frzS, isiD, hdC, tlC, forC, rf, r_fmts, r_fmti, r_part, r_rpart, r_split, r_join, exists_eq']
  refine ⟨line_le (by omega), 6, rfl, by omega, fun a a0 a1 => ?_⟩
  obtain ⟨n, en⟩ : ∃ n : Nat, 2 + a = n := ⟨(2 + a).toNat, by omega⟩
  have e2 : ((n : Int)).toNat = n := by omega
  simp only [wb, ws, rd, rq, rg, rl, rp, ri, rn, tgt, setAll, wipeL, Lit.d, Src.dat, List.set_cons_zero, List.set_cons_succ, List.getElem?_cons_zero, List.getElem?_cons_succ, List.map_cons, List.map_nil, List.cons_append, List.nil_append, List.append_nil, List.length_cons, List.length_nil, if_true, Bool.false_eq_true, if_false, Option.some.injEq, PyData.int.injEq, PyData.list.injEq, PyData.str.injEq, PyData.bool.injEq, PyData.tuple.injEq, Sl.m.injEq, Sl.l.injEq, Sl.d.injEq, exists_eq_left', exists_eq_left, true_and, r_sS, r_sl, r_sD, r_add, r_adds, r_addl, r_addt, r_sub, r_mul, r_mull, r_mod, r_fdiv, r_pow, r_lt, r_le, r_gt, r_ge, r_eq, r_eqs, r_eqb, r_ne, r_nes, r_neb, r_isN, r_notN, r_tb, r_ti, r_tl, r_tt, r_tn, r_lenl, r_lent, r_lens, r_lenc, r_int, r_intb, r_abs, r_max, r_min, r_tuple, r_tuplet, r_list, r_listt, r_repr, r_str, r_strs, r_all, r_any, r_idxl, r_idxt, r_idxs, r_idxc, r_slcl, r_slct, r_slcs, r_slcc, r_iteml, r_itemt, r_items, r_call, r_in_s, r_key, r_keys, r_count, r_str_ex, r_in_l, r_in_t, Nat.zero_add, Nat.reduceAdd, List.getD_cons_zero, List.getD_cons_succ, r_count, and_true, exists_const, List.length_map, fn_is_name, sh_is_name, fn_is_path, sh_is_path, fn_is_whole, sh_is_whole, fn_is_tuple_up_to, sh_is_tuple_up_to, fn_text_of, sh_text_of, fn_is_numeral, sh_is_numeral, fn_seal_in, sh_seal_in, fn__law_well, sh__law_well, fn__law_take, sh__law_take, fn__law_line, sh__law_line, fn__law_seal, sh__law_seal, fn__law_left, sh__law_left, fn_is_between, sh_is_between, fn_is_short_path, sh_is_short_path, fn_words_behind, sh_words_behind, fn__law_one, sh__law_one, fn__law_sealed, sh__law_sealed, fn_is_address, sh_is_address, fn_check_number, sh_check_number, fn_is_moment, sh_is_moment, fn_line_of, sh_line_of, fn__law_name, sh__law_name, fn__law_path, sh__law_path, fn__law_answer, sh__law_answer, fn__law_deeds, sh__law_deeds, fn_address_in, sh_address_in, fn_are_links, sh_are_links, fn_journal_line, sh_journal_line, fn_is_deed, sh_is_deed, fn__law_spots, sh__law_spots, fn__law_loose_rows, sh__law_loose_rows, fn_is_some_answer, sh_is_some_answer, fn_behind, sh_behind, sh_behind_1, sh_behind_2, sh_behind_3, fn_answer_of, sh_answer_of, fn_is_some_event, sh_is_some_event, fn_event_of, sh_event_of, fn_is_some_row, sh_is_some_row, fn_check_log, sh_check_log, fn_row_in, sh_row_in, fn_row_at, sh_row_at, fn_deeds_of, sh_deeds_of, sh_deeds_of_1, fn_read_journal, sh_read_journal, fn__law_is_kept, sh__law_is_kept, fn__law_right, sh__law_right, gl_ASK, gl_LETTERS, gl_SIGNS, gl_MOST_LETTERS, gl_MOST_SIGNS, gl_MOST_MOMENT, gl_MOST_MARK, gl_MOST_LINKS, gl_MOST_DIGITS, gl_DIGITS, gl_SEALS, ra, setSl, frzS, isiD, hdC, tlC, forC, rf, r_fmts, r_fmti, r_part, r_rpart, r_split, r_join, exists_eq']
  rw [en, e2]
  refine ⟨⟨by omega, by omega⟩, WSp hs, ⟨[], _, _, rfl, by simp, fun h => by omega, fun a h => nomatch h⟩, ?_, ?_⟩
  · rintro i d δ hd ⟨as, s3, s4, rfl, h1, h2, h3⟩
    obtain ⟨hi, rfl⟩ := rng_at hd
    simp only [wb, ws, rd, rq, rg, rl, rp, ri, rn, tgt, setAll, wipeL, Lit.d, Src.dat, List.set_cons_zero, List.set_cons_succ, List.getElem?_cons_zero, List.getElem?_cons_succ, List.map_cons, List.map_nil, List.cons_append, List.nil_append, List.append_nil, List.length_cons, List.length_nil, if_true, Bool.false_eq_true, if_false, Option.some.injEq, PyData.int.injEq, PyData.list.injEq, PyData.str.injEq, PyData.bool.injEq, PyData.tuple.injEq, Sl.m.injEq, Sl.l.injEq, Sl.d.injEq, exists_eq_left', exists_eq_left, true_and, r_sS, r_sl, r_sD, r_add, r_adds, r_addl, r_addt, r_sub, r_mul, r_mull, r_mod, r_fdiv, r_pow, r_lt, r_le, r_gt, r_ge, r_eq, r_eqs, r_eqb, r_ne, r_nes, r_neb, r_isN, r_notN, r_tb, r_ti, r_tl, r_tt, r_tn, r_lenl, r_lent, r_lens, r_lenc, r_int, r_intb, r_abs, r_max, r_min, r_tuple, r_tuplet, r_list, r_listt, r_repr, r_str, r_strs, r_all, r_any, r_idxl, r_idxt, r_idxs, r_idxc, r_slcl, r_slct, r_slcs, r_slcc, r_iteml, r_itemt, r_items, r_call, r_in_s, r_key, r_keys, r_count, r_str_ex, r_in_l, r_in_t, Nat.zero_add, Nat.reduceAdd, List.getD_cons_zero, List.getD_cons_succ, r_count, and_true, exists_const, List.length_map, fn_is_name, sh_is_name, fn_is_path, sh_is_path, fn_is_whole, sh_is_whole, fn_is_tuple_up_to, sh_is_tuple_up_to, fn_text_of, sh_text_of, fn_is_numeral, sh_is_numeral, fn_seal_in, sh_seal_in, fn__law_well, sh__law_well, fn__law_take, sh__law_take, fn__law_line, sh__law_line, fn__law_seal, sh__law_seal, fn__law_left, sh__law_left, fn_is_between, sh_is_between, fn_is_short_path, sh_is_short_path, fn_words_behind, sh_words_behind, fn__law_one, sh__law_one, fn__law_sealed, sh__law_sealed, fn_is_address, sh_is_address, fn_check_number, sh_check_number, fn_is_moment, sh_is_moment, fn_line_of, sh_line_of, fn__law_name, sh__law_name, fn__law_path, sh__law_path, fn__law_answer, sh__law_answer, fn__law_deeds, sh__law_deeds, fn_address_in, sh_address_in, fn_are_links, sh_are_links, fn_journal_line, sh_journal_line, fn_is_deed, sh_is_deed, fn__law_spots, sh__law_spots, fn__law_loose_rows, sh__law_loose_rows, fn_is_some_answer, sh_is_some_answer, fn_behind, sh_behind, sh_behind_1, sh_behind_2, sh_behind_3, fn_answer_of, sh_answer_of, fn_is_some_event, sh_is_some_event, fn_event_of, sh_event_of, fn_is_some_row, sh_is_some_row, fn_check_log, sh_check_log, fn_row_in, sh_row_in, fn_row_at, sh_row_at, fn_deeds_of, sh_deeds_of, sh_deeds_of_1, fn_read_journal, sh_read_journal, fn__law_is_kept, sh__law_is_kept, fn__law_right, sh__law_right, gl_ASK, gl_LETTERS, gl_SIGNS, gl_MOST_LETTERS, gl_MOST_SIGNS, gl_MOST_MOMENT, gl_MOST_MARK, gl_MOST_LINKS, gl_MOST_DIGITS, gl_DIGITS, gl_SEALS, ra, setSl, frzS, isiD, hdC, tlC, forC, rf, r_fmts, r_fmti, r_part, r_rpart, r_split, r_join, exists_eq']
    refine .inl ⟨_, .inl rfl, by rw [List.length_map]; exact hl.1, by rw [List.length_map]; omega, fun x hx => ?_⟩
    obtain ⟨l, hlm, rfl⟩ := List.mem_map.mp hx
    have hln := hn l hlm
    refine ⟨rfl, fun p hp => ⟨line_le (by omega), ?_⟩⟩
    have ad : AdOk (l, p) := ⟨hln.1, hln.2.1, hln.2.2, hp.1, hp.2.1, hp.2.2⟩
    show cmpC .nmem (adD (l, p)) (.list (as.map adD)) _
    refine ⟨in_ok (ad_nice ad) (ads_nice h3) (by omega), _, rfl, ?_⟩
    cases hb : (as.map adD).any (fun z => PyData.eqv z (adD (l, p))) with
    | false =>
      show if (true : Bool) = true then _ else _
      rw [if_pos rfl]
      refine ⟨by omega, as ++ [(l, p)], _, _, by rw [List.map_append]; rfl, by rw [List.length_append]; simp; omega, fun _ => by simp, fun a ha => ?_⟩
      rcases List.mem_append.mp ha with z | z
      · exact h3 a z
      · rw [List.mem_singleton.mp z]; exact ad
    | true =>
      show if (false : Bool) = true then _ else _
      rw [if_neg Bool.false_ne_true]
      have : as ≠ [] := fun z => by rw [z] at hb; cases hb
      exact ⟨as, _, _, rfl, by omega, fun _ => List.length_pos_iff.mpr this, h3⟩
  · rintro δ ⟨as, s3, s4, rfl, h1, h2, h3⟩
    rw [List.length_range] at h1 h2
    simp only [wb, ws, rd, rq, rg, rl, rp, ri, rn, tgt, setAll, wipeL, Lit.d, Src.dat, List.set_cons_zero, List.set_cons_succ, List.getElem?_cons_zero, List.getElem?_cons_succ, List.map_cons, List.map_nil, List.cons_append, List.nil_append, List.append_nil, List.length_cons, List.length_nil, if_true, Bool.false_eq_true, if_false, Option.some.injEq, PyData.int.injEq, PyData.list.injEq, PyData.str.injEq, PyData.bool.injEq, PyData.tuple.injEq, Sl.m.injEq, Sl.l.injEq, Sl.d.injEq, exists_eq_left', exists_eq_left, true_and, r_sS, r_sl, r_sD, r_add, r_adds, r_addl, r_addt, r_sub, r_mul, r_mull, r_mod, r_fdiv, r_pow, r_lt, r_le, r_gt, r_ge, r_eq, r_eqs, r_eqb, r_ne, r_nes, r_neb, r_isN, r_notN, r_tb, r_ti, r_tl, r_tt, r_tn, r_lenl, r_lent, r_lens, r_lenc, r_int, r_intb, r_abs, r_max, r_min, r_tuple, r_tuplet, r_list, r_listt, r_repr, r_str, r_strs, r_all, r_any, r_idxl, r_idxt, r_idxs, r_idxc, r_slcl, r_slct, r_slcs, r_slcc, r_iteml, r_itemt, r_items, r_call, r_in_s, r_key, r_keys, r_count, r_str_ex, r_in_l, r_in_t, Nat.zero_add, Nat.reduceAdd, List.getD_cons_zero, List.getD_cons_succ, r_count, and_true, exists_const, List.length_map, fn_is_name, sh_is_name, fn_is_path, sh_is_path, fn_is_whole, sh_is_whole, fn_is_tuple_up_to, sh_is_tuple_up_to, fn_text_of, sh_text_of, fn_is_numeral, sh_is_numeral, fn_seal_in, sh_seal_in, fn__law_well, sh__law_well, fn__law_take, sh__law_take, fn__law_line, sh__law_line, fn__law_seal, sh__law_seal, fn__law_left, sh__law_left, fn_is_between, sh_is_between, fn_is_short_path, sh_is_short_path, fn_words_behind, sh_words_behind, fn__law_one, sh__law_one, fn__law_sealed, sh__law_sealed, fn_is_address, sh_is_address, fn_check_number, sh_check_number, fn_is_moment, sh_is_moment, fn_line_of, sh_line_of, fn__law_name, sh__law_name, fn__law_path, sh__law_path, fn__law_answer, sh__law_answer, fn__law_deeds, sh__law_deeds, fn_address_in, sh_address_in, fn_are_links, sh_are_links, fn_journal_line, sh_journal_line, fn_is_deed, sh_is_deed, fn__law_spots, sh__law_spots, fn__law_loose_rows, sh__law_loose_rows, fn_is_some_answer, sh_is_some_answer, fn_behind, sh_behind, sh_behind_1, sh_behind_2, sh_behind_3, fn_answer_of, sh_answer_of, fn_is_some_event, sh_is_some_event, fn_event_of, sh_event_of, fn_is_some_row, sh_is_some_row, fn_check_log, sh_check_log, fn_row_in, sh_row_in, fn_row_at, sh_row_at, fn_deeds_of, sh_deeds_of, sh_deeds_of_1, fn_read_journal, sh_read_journal, fn__law_is_kept, sh__law_is_kept, fn__law_right, sh__law_right, gl_ASK, gl_LETTERS, gl_SIGNS, gl_MOST_LETTERS, gl_MOST_SIGNS, gl_MOST_MOMENT, gl_MOST_MARK, gl_MOST_LINKS, gl_MOST_DIGITS, gl_DIGITS, gl_SEALS, ra, setSl, frzS, isiD, hdC, tlC, forC, rf, r_fmts, r_fmti, r_part, r_rpart, r_split, r_join, exists_eq']
    exact hk as ⟨h2 (by omega), by omega, h3⟩
theorem pick_ad {as : List Ad} (ha : spotsOk as) {kd : KD} {er : Er} (hk : ∀ a ∈ as, AdOk a → kd (adD a)) : sp__law_one [wellD, spD as] kd er := by
  refine .inl ⟨_, .inl rfl, by rw [List.length_map]; exact ha.1, by rw [List.length_map]; have := ha.2.1; omega, fun x hx => ?_⟩
  obtain ⟨a, h1, rfl⟩ := List.mem_map.mp hx
  exact hk a h1 (ha.2.2 a h1)
def WLk (n : Nat) (acc : List FR.D) : Prop := ∃ ls : List Ad, acc = ls.map adD ∧ ls.length = n ∧ ∀ a ∈ ls, AdOk a
theorem law__law_answer : ∀ ds kd er, ds.length = 2 → sp__law_answer ds kd er → wb G er cb__law_answer (EdK kd) (startD N__law_answer ds) := by
  rintro ds kd er - ⟨as, rfl, ha, hk⟩
  show wb G er cb__law_answer (EdK kd) [.d wellD, .d (spD as), .no, .no, .no]
  unfold cb__law_answer
  simp only [wb, ws, rd, rq, rg, rl, rp, ri, rn, tgt, setAll, wipeL, Lit.d, Src.dat, List.set_cons_zero, List.set_cons_succ, List.getElem?_cons_zero, List.getElem?_cons_succ, List.map_cons, List.map_nil, List.cons_append, List.nil_append, List.append_nil, List.length_cons, List.length_nil, if_true, Bool.false_eq_true, if_false, Option.some.injEq, PyData.int.injEq, PyData.list.injEq, PyData.str.injEq, PyData.bool.injEq, PyData.tuple.injEq, Sl.m.injEq, Sl.l.injEq, Sl.d.injEq, exists_eq_left', exists_eq_left, true_and, r_sS, r_sl, r_sD, r_add, r_adds, r_addl, r_addt, r_sub, r_mul, r_mull, r_mod, r_fdiv, r_pow, r_lt, r_le, r_gt, r_ge, r_eq, r_eqs, r_eqb, r_ne, r_nes, r_neb, r_isN, r_notN, r_tb, r_ti, r_tl, r_tt, r_tn, r_lenl, r_lent, r_lens, r_lenc, r_int, r_intb, r_abs, r_max, r_min, r_tuple, r_tuplet, r_list, r_listt, r_repr, r_str, r_strs, r_all, r_any, r_idxl, r_idxt, r_idxs, r_idxc, r_slcl, r_slct, r_slcs, r_slcc, r_iteml, r_itemt, r_items, r_call, r_in_s, r_key, r_keys, r_count, r_str_ex, r_in_l, r_in_t, Nat.zero_add, Nat.reduceAdd, List.getD_cons_zero, List.getD_cons_succ, r_count, and_true, exists_const, List.length_map, fn_is_name, sh_is_name, fn_is_path, sh_is_path, fn_is_whole, sh_is_whole, fn_is_tuple_up_to, sh_is_tuple_up_to, fn_text_of, sh_text_of, fn_is_numeral, sh_is_numeral, fn_seal_in, sh_seal_in, fn__law_well, sh__law_well, fn__law_take, sh__law_take, fn__law_line, sh__law_line, fn__law_seal, sh__law_seal, fn__law_left, sh__law_left, fn_is_between, sh_is_between, fn_is_short_path, sh_is_short_path, fn_words_behind, sh_words_behind, fn__law_one, sh__law_one, fn__law_sealed, sh__law_sealed, fn_is_address, sh_is_address, fn_check_number, sh_check_number, fn_is_moment, sh_is_moment, fn_line_of, sh_line_of, fn__law_name, sh__law_name, fn__law_path, sh__law_path, fn__law_answer, sh__law_answer, fn__law_deeds, sh__law_deeds, fn_address_in, sh_address_in, fn_are_links, sh_are_links, fn_journal_line, sh_journal_line, fn_is_deed, sh_is_deed, fn__law_spots, sh__law_spots, fn__law_loose_rows, sh__law_loose_rows, fn_is_some_answer, sh_is_some_answer, fn_behind, sh_behind, sh_behind_1, sh_behind_2, sh_behind_3, fn_answer_of, sh_answer_of, fn_is_some_event, sh_is_some_event, fn_event_of, sh_event_of, fn_is_some_row, sh_is_some_row, fn_check_log, sh_check_log, fn_row_in, sh_row_in, fn_row_at, sh_row_at, fn_deeds_of, sh_deeds_of, sh_deeds_of_1, fn_read_journal, sh_read_journal, fn__law_is_kept, sh__law_is_kept, fn__law_right, sh__law_right, gl_ASK, gl_LETTERS, gl_SIGNS, gl_MOST_LETTERS, gl_MOST_SIGNS, gl_MOST_MOMENT, gl_MOST_MARK, gl_MOST_LINKS, gl_MOST_DIGITS, gl_DIGITS, gl_SEALS, ra, setSl, frzS, isiD, hdC, tlC, forC, rf, r_fmts, r_fmti, r_part, r_rpart, r_split, r_join, exists_eq']
  refine ⟨6, rfl, by omega, fun a a0 a1 => ?_⟩
  simp only [wb, ws, rd, rq, rg, rl, rp, ri, rn, tgt, setAll, wipeL, Lit.d, Src.dat, List.set_cons_zero, List.set_cons_succ, List.getElem?_cons_zero, List.getElem?_cons_succ, List.map_cons, List.map_nil, List.cons_append, List.nil_append, List.append_nil, List.length_cons, List.length_nil, if_true, Bool.false_eq_true, if_false, Option.some.injEq, PyData.int.injEq, PyData.list.injEq, PyData.str.injEq, PyData.bool.injEq, PyData.tuple.injEq, Sl.m.injEq, Sl.l.injEq, Sl.d.injEq, exists_eq_left', exists_eq_left, true_and, r_sS, r_sl, r_sD, r_add, r_adds, r_addl, r_addt, r_sub, r_mul, r_mull, r_mod, r_fdiv, r_pow, r_lt, r_le, r_gt, r_ge, r_eq, r_eqs, r_eqb, r_ne, r_nes, r_neb, r_isN, r_notN, r_tb, r_ti, r_tl, r_tt, r_tn, r_lenl, r_lent, r_lens, r_lenc, r_int, r_intb, r_abs, r_max, r_min, r_tuple, r_tuplet, r_list, r_listt, r_repr, r_str, r_strs, r_all, r_any, r_idxl, r_idxt, r_idxs, r_idxc, r_slcl, r_slct, r_slcs, r_slcc, r_iteml, r_itemt, r_items, r_call, r_in_s, r_key, r_keys, r_count, r_str_ex, r_in_l, r_in_t, Nat.zero_add, Nat.reduceAdd, List.getD_cons_zero, List.getD_cons_succ, r_count, and_true, exists_const, List.length_map, fn_is_name, sh_is_name, fn_is_path, sh_is_path, fn_is_whole, sh_is_whole, fn_is_tuple_up_to, sh_is_tuple_up_to, fn_text_of, sh_text_of, fn_is_numeral, sh_is_numeral, fn_seal_in, sh_seal_in, fn__law_well, sh__law_well, fn__law_take, sh__law_take, fn__law_line, sh__law_line, fn__law_seal, sh__law_seal, fn__law_left, sh__law_left, fn_is_between, sh_is_between, fn_is_short_path, sh_is_short_path, fn_words_behind, sh_words_behind, fn__law_one, sh__law_one, fn__law_sealed, sh__law_sealed, fn_is_address, sh_is_address, fn_check_number, sh_check_number, fn_is_moment, sh_is_moment, fn_line_of, sh_line_of, fn__law_name, sh__law_name, fn__law_path, sh__law_path, fn__law_answer, sh__law_answer, fn__law_deeds, sh__law_deeds, fn_address_in, sh_address_in, fn_are_links, sh_are_links, fn_journal_line, sh_journal_line, fn_is_deed, sh_is_deed, fn__law_spots, sh__law_spots, fn__law_loose_rows, sh__law_loose_rows, fn_is_some_answer, sh_is_some_answer, fn_behind, sh_behind, sh_behind_1, sh_behind_2, sh_behind_3, fn_answer_of, sh_answer_of, fn_is_some_event, sh_is_some_event, fn_event_of, sh_event_of, fn_is_some_row, sh_is_some_row, fn_check_log, sh_check_log, fn_row_in, sh_row_in, fn_row_at, sh_row_at, fn_deeds_of, sh_deeds_of, sh_deeds_of_1, fn_read_journal, sh_read_journal, fn__law_is_kept, sh__law_is_kept, fn__law_right, sh__law_right, gl_ASK, gl_LETTERS, gl_SIGNS, gl_MOST_LETTERS, gl_MOST_SIGNS, gl_MOST_MOMENT, gl_MOST_MARK, gl_MOST_LINKS, gl_MOST_DIGITS, gl_DIGITS, gl_SEALS, ra, setSl, frzS, isiD, hdC, tlC, forC, rf, r_fmts, r_fmti, r_part, r_rpart, r_split, r_join, exists_eq']
  refine ite_of' (fun _ => ?_) fun _ => ite_of' (fun _ => ⟨line_le (by omega), hk .gone trivial⟩) fun _ => ⟨line_le (by omega), .inl ⟨_, .inr rfl, by simp, by simp, fun x hx => pick_ad ha fun b hb bo => ⟨line_le (by omega), ?_⟩⟩⟩
  · refine ⟨line_le (by omega), .inl ⟨_, .inr rfl, by simp, by simp, fun x hx => ?_⟩⟩
    obtain ⟨n, rfl, h2⟩ : ∃ n : Nat, x = .int n ∧ n ≤ 6 := by
      simp only [List.mem_cons, List.not_mem_nil, or_false] at hx
      rcases hx with e | e | e | e | e
      · exact ⟨0, e, by omega⟩
      · exact ⟨1, e, by omega⟩
      · exact ⟨2, e, by omega⟩
      · exact ⟨3, e, by omega⟩
      · exact ⟨6, e, by omega⟩
    have e2 : ((n : Int)).toNat = n := by omega
    refine ⟨n, rfl, ⟨by omega, by omega⟩, ?_⟩
    rw [e2, List.length_range]
    refine ⟨by omega, WLk, ⟨[], rfl, rfl, fun a h => nomatch h⟩, ?_, ?_⟩
    · rintro i d acc hd ⟨ls, rfl, hl, h3⟩ -
      refine pick_ad ha fun b hb bo => ⟨ls ++ [b], by rw [List.map_append]; rfl, by rw [List.length_append, hl]; rfl, fun c hc => ?_⟩
      rcases List.mem_append.mp hc with z | z
      · exact h3 c z
      · rw [List.mem_singleton.mp z]; exact bo
    · rintro acc ⟨ls, rfl, hl, h3⟩
      refine ⟨1000000, rfl, by omega, fun c c0 c1 => ⟨line_le (by omega), .inl ⟨_, .inr rfl, by simp, by simp, fun x hx => ⟨line_le (by omega), ?_⟩⟩⟩⟩
      obtain ⟨m, rfl, hm⟩ : ∃ m : Nat, x = .int m ∧ m ≤ 999999 := by
        simp only [List.mem_cons, List.not_mem_nil, or_false] at hx
        rcases hx with e | e | e | e | e
        · exact ⟨0, e, by omega⟩
        · exact ⟨7, e, by omega⟩
        · exact ⟨8, e, by omega⟩
        · exact ⟨999999, e, by omega⟩
        · exact ⟨c.toNat, by rw [e]; congr 1; omega, by omega⟩
      exact hk (.page m ls) ⟨hm, by omega, h3⟩
  · simp only [List.mem_cons, List.not_mem_nil, or_false] at hx
    rcases hx with e | e
    · rw [e]; exact hk (.moved b) bo
    · rw [e]; exact hk (.same b) bo
def WLr (as : List Ad) (N : Nat) (n : Nat) (δ : List Sl) : Prop := ∃ (rs : List Rw) (s4 s5 s6 : Sl), δ = [.d wellD, .d (spD as), .d (.int N), .l (rs.map rwD), s4, s5, s6] ∧ rs.length = n ∧ ∀ r ∈ rs, RwOk r
theorem law__law_loose_rows : ∀ ds kd er, ds.length = 3 → sp__law_loose_rows ds kd er → wb G er cb__law_loose_rows (EdK kd) (startD N__law_loose_rows ds) := by
  rintro ds kd er - ⟨as, n, rfl, ha, hn, hk⟩
  show wb G er cb__law_loose_rows (EdK kd) [.d wellD, .d (spD as), .d (.int n), .no, .no, .no, .no]
  unfold cb__law_loose_rows
  simp only [wb, ws, rd, rq, rg, rl, rp, ri, rn, tgt, setAll, wipeL, Lit.d, Src.dat, List.set_cons_zero, List.set_cons_succ, List.getElem?_cons_zero, List.getElem?_cons_succ, List.map_cons, List.map_nil, List.cons_append, List.nil_append, List.append_nil, List.length_cons, List.length_nil, if_true, Bool.false_eq_true, if_false, Option.some.injEq, PyData.int.injEq, PyData.list.injEq, PyData.str.injEq, PyData.bool.injEq, PyData.tuple.injEq, Sl.m.injEq, Sl.l.injEq, Sl.d.injEq, exists_eq_left', exists_eq_left, true_and, r_sS, r_sl, r_sD, r_add, r_adds, r_addl, r_addt, r_sub, r_mul, r_mull, r_mod, r_fdiv, r_pow, r_lt, r_le, r_gt, r_ge, r_eq, r_eqs, r_eqb, r_ne, r_nes, r_neb, r_isN, r_notN, r_tb, r_ti, r_tl, r_tt, r_tn, r_lenl, r_lent, r_lens, r_lenc, r_int, r_intb, r_abs, r_max, r_min, r_tuple, r_tuplet, r_list, r_listt, r_repr, r_str, r_strs, r_all, r_any, r_idxl, r_idxt, r_idxs, r_idxc, r_slcl, r_slct, r_slcs, r_slcc, r_iteml, r_itemt, r_items, r_call, r_in_s, r_key, r_keys, r_count, r_str_ex, r_in_l, r_in_t, Nat.zero_add, Nat.reduceAdd, List.getD_cons_zero, List.getD_cons_succ, r_count, and_true, exists_const, List.length_map, fn_is_name, sh_is_name, fn_is_path, sh_is_path, fn_is_whole, sh_is_whole, fn_is_tuple_up_to, sh_is_tuple_up_to, fn_text_of, sh_text_of, fn_is_numeral, sh_is_numeral, fn_seal_in, sh_seal_in, fn__law_well, sh__law_well, fn__law_take, sh__law_take, fn__law_line, sh__law_line, fn__law_seal, sh__law_seal, fn__law_left, sh__law_left, fn_is_between, sh_is_between, fn_is_short_path, sh_is_short_path, fn_words_behind, sh_words_behind, fn__law_one, sh__law_one, fn__law_sealed, sh__law_sealed, fn_is_address, sh_is_address, fn_check_number, sh_check_number, fn_is_moment, sh_is_moment, fn_line_of, sh_line_of, fn__law_name, sh__law_name, fn__law_path, sh__law_path, fn__law_answer, sh__law_answer, fn__law_deeds, sh__law_deeds, fn_address_in, sh_address_in, fn_are_links, sh_are_links, fn_journal_line, sh_journal_line, fn_is_deed, sh_is_deed, fn__law_spots, sh__law_spots, fn__law_loose_rows, sh__law_loose_rows, fn_is_some_answer, sh_is_some_answer, fn_behind, sh_behind, sh_behind_1, sh_behind_2, sh_behind_3, fn_answer_of, sh_answer_of, fn_is_some_event, sh_is_some_event, fn_event_of, sh_event_of, fn_is_some_row, sh_is_some_row, fn_check_log, sh_check_log, fn_row_in, sh_row_in, fn_row_at, sh_row_at, fn_deeds_of, sh_deeds_of, sh_deeds_of_1, fn_read_journal, sh_read_journal, fn__law_is_kept, sh__law_is_kept, fn__law_right, sh__law_right, gl_ASK, gl_LETTERS, gl_SIGNS, gl_MOST_LETTERS, gl_MOST_SIGNS, gl_MOST_MOMENT, gl_MOST_MARK, gl_MOST_LINKS, gl_MOST_DIGITS, gl_DIGITS, gl_SEALS, ra, setSl, frzS, isiD, hdC, tlC, forC, rf, r_fmts, r_fmti, r_part, r_rpart, r_split, r_join, exists_eq']
  have e2 : ((n : Int)).toNat = n := by omega
  rw [e2]
  refine ⟨line_le (by omega), ⟨by omega, by omega⟩, WLr as n, ⟨[], _, _, _, rfl, rfl, fun r h => nomatch h⟩, ?_, ?_⟩
  · rintro i d δ hd ⟨rs, s4, s5, s6, rfl, hl, hr⟩
    obtain ⟨hi, rfl⟩ := rng_at hd
    simp only [wb, ws, rd, rq, rg, rl, rp, ri, rn, tgt, setAll, wipeL, Lit.d, Src.dat, List.set_cons_zero, List.set_cons_succ, List.getElem?_cons_zero, List.getElem?_cons_succ, List.map_cons, List.map_nil, List.cons_append, List.nil_append, List.append_nil, List.length_cons, List.length_nil, if_true, Bool.false_eq_true, if_false, Option.some.injEq, PyData.int.injEq, PyData.list.injEq, PyData.str.injEq, PyData.bool.injEq, PyData.tuple.injEq, Sl.m.injEq, Sl.l.injEq, Sl.d.injEq, exists_eq_left', exists_eq_left, true_and, r_sS, r_sl, r_sD, r_add, r_adds, r_addl, r_addt, r_sub, r_mul, r_mull, r_mod, r_fdiv, r_pow, r_lt, r_le, r_gt, r_ge, r_eq, r_eqs, r_eqb, r_ne, r_nes, r_neb, r_isN, r_notN, r_tb, r_ti, r_tl, r_tt, r_tn, r_lenl, r_lent, r_lens, r_lenc, r_int, r_intb, r_abs, r_max, r_min, r_tuple, r_tuplet, r_list, r_listt, r_repr, r_str, r_strs, r_all, r_any, r_idxl, r_idxt, r_idxs, r_idxc, r_slcl, r_slct, r_slcs, r_slcc, r_iteml, r_itemt, r_items, r_call, r_in_s, r_key, r_keys, r_count, r_str_ex, r_in_l, r_in_t, Nat.zero_add, Nat.reduceAdd, List.getD_cons_zero, List.getD_cons_succ, r_count, and_true, exists_const, List.length_map, fn_is_name, sh_is_name, fn_is_path, sh_is_path, fn_is_whole, sh_is_whole, fn_is_tuple_up_to, sh_is_tuple_up_to, fn_text_of, sh_text_of, fn_is_numeral, sh_is_numeral, fn_seal_in, sh_seal_in, fn__law_well, sh__law_well, fn__law_take, sh__law_take, fn__law_line, sh__law_line, fn__law_seal, sh__law_seal, fn__law_left, sh__law_left, fn_is_between, sh_is_between, fn_is_short_path, sh_is_short_path, fn_words_behind, sh_words_behind, fn__law_one, sh__law_one, fn__law_sealed, sh__law_sealed, fn_is_address, sh_is_address, fn_check_number, sh_check_number, fn_is_moment, sh_is_moment, fn_line_of, sh_line_of, fn__law_name, sh__law_name, fn__law_path, sh__law_path, fn__law_answer, sh__law_answer, fn__law_deeds, sh__law_deeds, fn_address_in, sh_address_in, fn_are_links, sh_are_links, fn_journal_line, sh_journal_line, fn_is_deed, sh_is_deed, fn__law_spots, sh__law_spots, fn__law_loose_rows, sh__law_loose_rows, fn_is_some_answer, sh_is_some_answer, fn_behind, sh_behind, sh_behind_1, sh_behind_2, sh_behind_3, fn_answer_of, sh_answer_of, fn_is_some_event, sh_is_some_event, fn_event_of, sh_event_of, fn_is_some_row, sh_is_some_row, fn_check_log, sh_check_log, fn_row_in, sh_row_in, fn_row_at, sh_row_at, fn_deeds_of, sh_deeds_of, sh_deeds_of_1, fn_read_journal, sh_read_journal, fn__law_is_kept, sh__law_is_kept, fn__law_right, sh__law_right, gl_ASK, gl_LETTERS, gl_SIGNS, gl_MOST_LETTERS, gl_MOST_SIGNS, gl_MOST_MOMENT, gl_MOST_MARK, gl_MOST_LINKS, gl_MOST_DIGITS, gl_DIGITS, gl_SEALS, ra, setSl, frzS, isiD, hdC, tlC, forC, rf, r_fmts, r_fmti, r_part, r_rpart, r_split, r_join, exists_eq']
    refine ⟨⟨by decide, by decide, by decide⟩, 1000000000000, rfl, by omega, fun c c0 c1 => ⟨line_le (by omega), .inl ⟨_, .inr rfl, by simp, by simp, fun x hx => ?_⟩⟩⟩
    obtain ⟨w, rfl, hw⟩ : ∃ w : Nat, x = .int w ∧ w ≤ 999999999999 := by
      simp only [List.mem_cons, List.not_mem_nil, or_false] at hx
      rcases hx with e | e | e | e | e
      · exact ⟨0, e, by omega⟩
      · exact ⟨i, e, by omega⟩
      · exact ⟨7, e, by omega⟩
      · exact ⟨999999999999, e, by omega⟩
      · exact ⟨c.toNat, by rw [e]; congr 1; omega, by omega⟩
    refine ⟨line_le (by omega), line_le (by omega), line_le (by omega), as, rfl, ha, fun e1 he1 => ⟨as, rfl, ha, fun e2 he2 => ⟨line_le (by omega), .inl ⟨_, .inr rfl, by simp, by simp, fun x hx => ?_⟩⟩⟩⟩
    obtain ⟨e, rfl, he⟩ : ∃ e : Ev, x = evD e ∧ EvOk e := by
      simp only [List.mem_cons, List.not_mem_nil, or_false] at hx
      rcases hx with q | q | q | q | q
      · exact ⟨.ask, q, trivial⟩
      · exact ⟨.lost, q, trivial⟩
      · exact ⟨.cut, q, trivial⟩
      · exact ⟨e1, q, he1⟩
      · exact ⟨e2, q, he2⟩
    refine ⟨by omega, pick_ad ha fun b hb bo => ⟨line_le (by omega), rs ++ [⟨w, b, e⟩], _, _, _, by rw [List.map_append]; rfl, by rw [List.length_append, hl]; rfl, fun r hr1 => ?_⟩⟩
    rcases List.mem_append.mp hr1 with z | z
    · exact hr r z
    · rw [List.mem_singleton.mp z]; exact ⟨hw, bo, he⟩
  · rintro δ ⟨rs, s4, s5, s6, rfl, hl, hr⟩
    rw [List.length_range] at hl
    simp only [wb, ws, rd, rq, rg, rl, rp, ri, rn, tgt, setAll, wipeL, Lit.d, Src.dat, List.set_cons_zero, List.set_cons_succ, List.getElem?_cons_zero, List.getElem?_cons_succ, List.map_cons, List.map_nil, List.cons_append, List.nil_append, List.append_nil, List.length_cons, List.length_nil, if_true, Bool.false_eq_true, if_false, Option.some.injEq, PyData.int.injEq, PyData.list.injEq, PyData.str.injEq, PyData.bool.injEq, PyData.tuple.injEq, Sl.m.injEq, Sl.l.injEq, Sl.d.injEq, exists_eq_left', exists_eq_left, true_and, r_sS, r_sl, r_sD, r_add, r_adds, r_addl, r_addt, r_sub, r_mul, r_mull, r_mod, r_fdiv, r_pow, r_lt, r_le, r_gt, r_ge, r_eq, r_eqs, r_eqb, r_ne, r_nes, r_neb, r_isN, r_notN, r_tb, r_ti, r_tl, r_tt, r_tn, r_lenl, r_lent, r_lens, r_lenc, r_int, r_intb, r_abs, r_max, r_min, r_tuple, r_tuplet, r_list, r_listt, r_repr, r_str, r_strs, r_all, r_any, r_idxl, r_idxt, r_idxs, r_idxc, r_slcl, r_slct, r_slcs, r_slcc, r_iteml, r_itemt, r_items, r_call, r_in_s, r_key, r_keys, r_count, r_str_ex, r_in_l, r_in_t, Nat.zero_add, Nat.reduceAdd, List.getD_cons_zero, List.getD_cons_succ, r_count, and_true, exists_const, List.length_map, fn_is_name, sh_is_name, fn_is_path, sh_is_path, fn_is_whole, sh_is_whole, fn_is_tuple_up_to, sh_is_tuple_up_to, fn_text_of, sh_text_of, fn_is_numeral, sh_is_numeral, fn_seal_in, sh_seal_in, fn__law_well, sh__law_well, fn__law_take, sh__law_take, fn__law_line, sh__law_line, fn__law_seal, sh__law_seal, fn__law_left, sh__law_left, fn_is_between, sh_is_between, fn_is_short_path, sh_is_short_path, fn_words_behind, sh_words_behind, fn__law_one, sh__law_one, fn__law_sealed, sh__law_sealed, fn_is_address, sh_is_address, fn_check_number, sh_check_number, fn_is_moment, sh_is_moment, fn_line_of, sh_line_of, fn__law_name, sh__law_name, fn__law_path, sh__law_path, fn__law_answer, sh__law_answer, fn__law_deeds, sh__law_deeds, fn_address_in, sh_address_in, fn_are_links, sh_are_links, fn_journal_line, sh_journal_line, fn_is_deed, sh_is_deed, fn__law_spots, sh__law_spots, fn__law_loose_rows, sh__law_loose_rows, fn_is_some_answer, sh_is_some_answer, fn_behind, sh_behind, sh_behind_1, sh_behind_2, sh_behind_3, fn_answer_of, sh_answer_of, fn_is_some_event, sh_is_some_event, fn_event_of, sh_event_of, fn_is_some_row, sh_is_some_row, fn_check_log, sh_check_log, fn_row_in, sh_row_in, fn_row_at, sh_row_at, fn_deeds_of, sh_deeds_of, sh_deeds_of_1, fn_read_journal, sh_read_journal, fn__law_is_kept, sh__law_is_kept, fn__law_right, sh__law_right, gl_ASK, gl_LETTERS, gl_SIGNS, gl_MOST_LETTERS, gl_MOST_SIGNS, gl_MOST_MOMENT, gl_MOST_MARK, gl_MOST_LINKS, gl_MOST_DIGITS, gl_DIGITS, gl_SEALS, ra, setSl, frzS, isiD, hdC, tlC, forC, rf, r_fmts, r_fmti, r_part, r_rpart, r_split, r_join, exists_eq']
    exact hk rs hl hr
end K47

namespace K47
open PySem L2 PyProof.Rows FR
theorem kind_nice {e : Ev} : Nice 0 402 (.str (kindS e)) := by
  rw [kind_mk]
  exact str_nice (n := 40) (by cases e <;> simp [kindL]) fun c hc => by have := kind_sg hc; omega
theorem ev_nice {e : Ev} (he : EvOk e) : Nice 3 14652 (evD e) := by
  cases e with
  | page m ls =>
    obtain ⟨h1, h2, h3⟩ := he
    exact (NiceA.cons (kind_nice.mono (n' := 2) (w' := 4881) (by omega) (by omega)) (.cons ((Nice.nat (i := m) (by omega)).mono (by omega) (by omega)) (.cons ((NiceA.map (f := adD) h2 fun a ha => ad_nice (h3 a ha)).tuple.mono (by omega) (by omega)) .nil))).tuple
  | moved a => exact (NiceA.cons (kind_nice.mono (n' := 2) (w' := 4881) (by omega) (by omega)) (.cons ((ad_nice he).mono (by omega) (by omega)) .nil)).tuple.mono (by omega) (by omega)
  | same a => exact (NiceA.cons (kind_nice.mono (n' := 2) (w' := 4881) (by omega) (by omega)) (.cons ((ad_nice he).mono (by omega) (by omega)) .nil)).tuple.mono (by omega) (by omega)
  | ask => exact (NiceA.cons (kind_nice (e := .ask)) .nil).tuple.mono (by omega) (by omega)
  | lost => exact (NiceA.cons (kind_nice (e := .lost)) .nil).tuple.mono (by omega) (by omega)
  | cut => exact (NiceA.cons (kind_nice (e := .cut)) .nil).tuple.mono (by omega) (by omega)
  | gone => exact (NiceA.cons (kind_nice (e := .gone)) .nil).tuple.mono (by omega) (by omega)
theorem rw_nice {r : Rw} (h : RwOk r) : Nice 4 43965 (rwD r) := by
  have hw := h.w
  exact (NiceA.cons ((Nice.nat (i := r.w) (by omega)).mono (n' := 3) (w' := 14652) (by omega) (by omega)) (.cons ((ad_nice h.a).mono (by omega) (by omega)) (.cons (ev_nice h.e) .nil))).tuple
theorem rs_nice {rs : List Rw} (hl : rs.length ≤ 12) (h : ∀ r ∈ rs, RwOk r) : Nice 5 527607 (rsD rs) := (NiceA.map hl fun r hr => rw_nice (h r hr)).tuple
theorem law_check_number : ∀ ds kd er, ds.length = 3 → sp_check_number ds kd er → wb G er cb_check_number (EdK kd) (startD N_check_number ds) := by
  rintro ds kd er - ⟨i, lo, hi, rfl, h1, h2, hk⟩
  show wb G er cb_check_number (EdK kd) [.d (.int i), .d (.int lo), .d (.int hi)]
  unfold cb_check_number
  simp only [wb, ws, rd, rq, rg, rl, rp, ri, rn, tgt, setAll, wipeL, Lit.d, Src.dat, List.set_cons_zero, List.set_cons_succ, List.getElem?_cons_zero, List.getElem?_cons_succ, List.map_cons, List.map_nil, List.cons_append, List.nil_append, List.append_nil, List.length_cons, List.length_nil, if_true, Bool.false_eq_true, if_false, Option.some.injEq, PyData.int.injEq, PyData.list.injEq, PyData.str.injEq, PyData.bool.injEq, PyData.tuple.injEq, Sl.m.injEq, Sl.l.injEq, Sl.d.injEq, exists_eq_left', exists_eq_left, true_and, r_sS, r_sl, r_sD, r_add, r_adds, r_addl, r_addt, r_sub, r_mul, r_mull, r_mod, r_fdiv, r_pow, r_lt, r_le, r_gt, r_ge, r_eq, r_eqs, r_eqb, r_ne, r_nes, r_neb, r_isN, r_notN, r_tb, r_ti, r_tl, r_tt, r_tn, r_lenl, r_lent, r_lens, r_lenc, r_int, r_intb, r_abs, r_max, r_min, r_tuple, r_tuplet, r_list, r_listt, r_repr, r_str, r_strs, r_all, r_any, r_idxl, r_idxt, r_idxs, r_idxc, r_slcl, r_slct, r_slcs, r_slcc, r_iteml, r_itemt, r_items, r_call, r_in_s, r_key, r_keys, r_count, r_str_ex, r_in_l, r_in_t, Nat.zero_add, Nat.reduceAdd, List.getD_cons_zero, List.getD_cons_succ, r_count, and_true, exists_const, List.length_map, fn_is_name, sh_is_name, fn_is_path, sh_is_path, fn_is_whole, sh_is_whole, fn_is_tuple_up_to, sh_is_tuple_up_to, fn_text_of, sh_text_of, fn_is_numeral, sh_is_numeral, fn_seal_in, sh_seal_in, fn__law_well, sh__law_well, fn__law_take, sh__law_take, fn__law_line, sh__law_line, fn__law_seal, sh__law_seal, fn__law_left, sh__law_left, fn_is_between, sh_is_between, fn_is_short_path, sh_is_short_path, fn_words_behind, sh_words_behind, fn__law_one, sh__law_one, fn__law_sealed, sh__law_sealed, fn_is_address, sh_is_address, fn_check_number, sh_check_number, fn_is_moment, sh_is_moment, fn_line_of, sh_line_of, fn__law_name, sh__law_name, fn__law_path, sh__law_path, fn__law_answer, sh__law_answer, fn__law_deeds, sh__law_deeds, fn_address_in, sh_address_in, fn_are_links, sh_are_links, fn_journal_line, sh_journal_line, fn_is_deed, sh_is_deed, fn__law_spots, sh__law_spots, fn__law_loose_rows, sh__law_loose_rows, fn_is_some_answer, sh_is_some_answer, fn_behind, sh_behind, sh_behind_1, sh_behind_2, sh_behind_3, fn_answer_of, sh_answer_of, fn_is_some_event, sh_is_some_event, fn_event_of, sh_event_of, fn_is_some_row, sh_is_some_row, fn_check_log, sh_check_log, fn_row_in, sh_row_in, fn_row_at, sh_row_at, fn_deeds_of, sh_deeds_of, sh_deeds_of_1, fn_read_journal, sh_read_journal, fn__law_is_kept, sh__law_is_kept, fn__law_right, sh__law_right, gl_ASK, gl_LETTERS, gl_SIGNS, gl_MOST_LETTERS, gl_MOST_SIGNS, gl_MOST_MOMENT, gl_MOST_MARK, gl_MOST_LINKS, gl_MOST_DIGITS, gl_DIGITS, gl_SEALS, ra, setSl, frzS, isiD, hdC, tlC, forC, rf, r_fmts, r_fmti, r_part, r_rpart, r_split, r_join, exists_eq']
  exact ⟨_, _, _, rfl, true, by rw [decide_eq_true ⟨h1, h2⟩]; rfl, hk⟩
theorem wr_s : ("write" : Str) = mk [119, 114, 105, 116, 101] := by kernel_rfl
theorem as_s : ("ask" : Str) = mk [97, 115, 107] := by kernel_rfl
theorem ne_wa : decide (("ask" : Str) = ("write" : Str)) = false := by decide +kernel
theorem ne_aw : decide (("write" : Str) = ("ask" : Str)) = false := by decide +kernel
theorem law_is_deed : ∀ ds kd er, ds.length = 1 → sp_is_deed ds kd er → wb G er cb_is_deed (EdK kd) (startD N_is_deed ds) := by
  rintro ds kd er - ⟨d, rfl, hd, hk⟩
  cases d with
  | w l =>
    show wb G er cb_is_deed (EdK kd) [.d (.tuple [.str ("write" : Str), stD l])]
    unfold cb_is_deed
    simp only [wb, ws, rd, rq, rg, rl, rp, ri, rn, tgt, setAll, wipeL, Lit.d, Src.dat, List.set_cons_zero, List.set_cons_succ, List.getElem?_cons_zero, List.getElem?_cons_succ, List.map_cons, List.map_nil, List.cons_append, List.nil_append, List.append_nil, List.length_cons, List.length_nil, if_true, Bool.false_eq_true, if_false, Option.some.injEq, PyData.int.injEq, PyData.list.injEq, PyData.str.injEq, PyData.bool.injEq, PyData.tuple.injEq, Sl.m.injEq, Sl.l.injEq, Sl.d.injEq, exists_eq_left', exists_eq_left, true_and, r_sS, r_sl, r_sD, r_add, r_adds, r_addl, r_addt, r_sub, r_mul, r_mull, r_mod, r_fdiv, r_pow, r_lt, r_le, r_gt, r_ge, r_eq, r_eqs, r_eqb, r_ne, r_nes, r_neb, r_isN, r_notN, r_tb, r_ti, r_tl, r_tt, r_tn, r_lenl, r_lent, r_lens, r_lenc, r_int, r_intb, r_abs, r_max, r_min, r_tuple, r_tuplet, r_list, r_listt, r_repr, r_str, r_strs, r_all, r_any, r_idxl, r_idxt, r_idxs, r_idxc, r_slcl, r_slct, r_slcs, r_slcc, r_iteml, r_itemt, r_items, r_call, r_in_s, r_key, r_keys, r_count, r_str_ex, r_in_l, r_in_t, Nat.zero_add, Nat.reduceAdd, List.getD_cons_zero, List.getD_cons_succ, r_count, and_true, exists_const, List.length_map, fn_is_name, sh_is_name, fn_is_path, sh_is_path, fn_is_whole, sh_is_whole, fn_is_tuple_up_to, sh_is_tuple_up_to, fn_text_of, sh_text_of, fn_is_numeral, sh_is_numeral, fn_seal_in, sh_seal_in, fn__law_well, sh__law_well, fn__law_take, sh__law_take, fn__law_line, sh__law_line, fn__law_seal, sh__law_seal, fn__law_left, sh__law_left, fn_is_between, sh_is_between, fn_is_short_path, sh_is_short_path, fn_words_behind, sh_words_behind, fn__law_one, sh__law_one, fn__law_sealed, sh__law_sealed, fn_is_address, sh_is_address, fn_check_number, sh_check_number, fn_is_moment, sh_is_moment, fn_line_of, sh_line_of, fn__law_name, sh__law_name, fn__law_path, sh__law_path, fn__law_answer, sh__law_answer, fn__law_deeds, sh__law_deeds, fn_address_in, sh_address_in, fn_are_links, sh_are_links, fn_journal_line, sh_journal_line, fn_is_deed, sh_is_deed, fn__law_spots, sh__law_spots, fn__law_loose_rows, sh__law_loose_rows, fn_is_some_answer, sh_is_some_answer, fn_behind, sh_behind, sh_behind_1, sh_behind_2, sh_behind_3, fn_answer_of, sh_answer_of, fn_is_some_event, sh_is_some_event, fn_event_of, sh_event_of, fn_is_some_row, sh_is_some_row, fn_check_log, sh_check_log, fn_row_in, sh_row_in, fn_row_at, sh_row_at, fn_deeds_of, sh_deeds_of, sh_deeds_of_1, fn_read_journal, sh_read_journal, fn__law_is_kept, sh__law_is_kept, fn__law_right, sh__law_right, gl_ASK, gl_LETTERS, gl_SIGNS, gl_MOST_LETTERS, gl_MOST_SIGNS, gl_MOST_MOMENT, gl_MOST_MARK, gl_MOST_LINKS, gl_MOST_DIGITS, gl_DIGITS, gl_SEALS, ra, setSl, frzS, isiD, hdC, tlC, forC, rf, r_fmts, r_fmti, r_part, r_rpart, r_split, r_join, exists_eq']
    refine ⟨_, _, _, rfl, true, rfl, ?_⟩
    rw [Bool.not_true, if_neg Bool.false_ne_true]
    refine ⟨_, rfl, true, rfl, ?_⟩
    rw [Bool.not_true, if_neg Bool.false_ne_true]
    refine ⟨_, rfl, ?_⟩
    rw [r_eqs, decide_eq_true rfl]
    refine ⟨_, rfl, ?_⟩
    rw [if_pos rfl, if_pos (by decide)]
    exact ⟨_, rfl, true, rfl, hk⟩
  | a t p =>
    show wb G er cb_is_deed (EdK kd) [.d (.tuple [.str ("ask" : Str), .int (t : Nat), adD p])]
    unfold cb_is_deed
    simp only [wb, ws, rd, rq, rg, rl, rp, ri, rn, tgt, setAll, wipeL, Lit.d, Src.dat, List.set_cons_zero, List.set_cons_succ, List.getElem?_cons_zero, List.getElem?_cons_succ, List.map_cons, List.map_nil, List.cons_append, List.nil_append, List.append_nil, List.length_cons, List.length_nil, if_true, Bool.false_eq_true, if_false, Option.some.injEq, PyData.int.injEq, PyData.list.injEq, PyData.str.injEq, PyData.bool.injEq, PyData.tuple.injEq, Sl.m.injEq, Sl.l.injEq, Sl.d.injEq, exists_eq_left', exists_eq_left, true_and, r_sS, r_sl, r_sD, r_add, r_adds, r_addl, r_addt, r_sub, r_mul, r_mull, r_mod, r_fdiv, r_pow, r_lt, r_le, r_gt, r_ge, r_eq, r_eqs, r_eqb, r_ne, r_nes, r_neb, r_isN, r_notN, r_tb, r_ti, r_tl, r_tt, r_tn, r_lenl, r_lent, r_lens, r_lenc, r_int, r_intb, r_abs, r_max, r_min, r_tuple, r_tuplet, r_list, r_listt, r_repr, r_str, r_strs, r_all, r_any, r_idxl, r_idxt, r_idxs, r_idxc, r_slcl, r_slct, r_slcs, r_slcc, r_iteml, r_itemt, r_items, r_call, r_in_s, r_key, r_keys, r_count, r_str_ex, r_in_l, r_in_t, Nat.zero_add, Nat.reduceAdd, List.getD_cons_zero, List.getD_cons_succ, r_count, and_true, exists_const, List.length_map, fn_is_name, sh_is_name, fn_is_path, sh_is_path, fn_is_whole, sh_is_whole, fn_is_tuple_up_to, sh_is_tuple_up_to, fn_text_of, sh_text_of, fn_is_numeral, sh_is_numeral, fn_seal_in, sh_seal_in, fn__law_well, sh__law_well, fn__law_take, sh__law_take, fn__law_line, sh__law_line, fn__law_seal, sh__law_seal, fn__law_left, sh__law_left, fn_is_between, sh_is_between, fn_is_short_path, sh_is_short_path, fn_words_behind, sh_words_behind, fn__law_one, sh__law_one, fn__law_sealed, sh__law_sealed, fn_is_address, sh_is_address, fn_check_number, sh_check_number, fn_is_moment, sh_is_moment, fn_line_of, sh_line_of, fn__law_name, sh__law_name, fn__law_path, sh__law_path, fn__law_answer, sh__law_answer, fn__law_deeds, sh__law_deeds, fn_address_in, sh_address_in, fn_are_links, sh_are_links, fn_journal_line, sh_journal_line, fn_is_deed, sh_is_deed, fn__law_spots, sh__law_spots, fn__law_loose_rows, sh__law_loose_rows, fn_is_some_answer, sh_is_some_answer, fn_behind, sh_behind, sh_behind_1, sh_behind_2, sh_behind_3, fn_answer_of, sh_answer_of, fn_is_some_event, sh_is_some_event, fn_event_of, sh_event_of, fn_is_some_row, sh_is_some_row, fn_check_log, sh_check_log, fn_row_in, sh_row_in, fn_row_at, sh_row_at, fn_deeds_of, sh_deeds_of, sh_deeds_of_1, fn_read_journal, sh_read_journal, fn__law_is_kept, sh__law_is_kept, fn__law_right, sh__law_right, gl_ASK, gl_LETTERS, gl_SIGNS, gl_MOST_LETTERS, gl_MOST_SIGNS, gl_MOST_MOMENT, gl_MOST_MARK, gl_MOST_LINKS, gl_MOST_DIGITS, gl_DIGITS, gl_SEALS, ra, setSl, frzS, isiD, hdC, tlC, forC, rf, r_fmts, r_fmti, r_part, r_rpart, r_split, r_join, exists_eq']
    refine ⟨_, _, _, rfl, true, rfl, ?_⟩
    rw [Bool.not_true, if_neg Bool.false_ne_true]
    refine ⟨_, rfl, true, rfl, ?_⟩
    rw [Bool.not_true, if_neg Bool.false_ne_true]
    refine ⟨_, rfl, ?_⟩
    rw [r_eqs, ne_wa]
    refine ⟨_, rfl, ?_⟩
    rw [if_neg Bool.false_ne_true]
    refine ⟨_, rfl, ?_⟩
    rw [r_eqs, decide_eq_true rfl]
    refine ⟨_, rfl, ?_⟩
    rw [if_pos rfl, if_pos (by decide)]
    refine ⟨_, rfl, t, rfl, hd.1, true, rfl, ?_⟩
    rw [if_pos rfl]
    exact ⟨_, rfl, p, rfl, hd.2, hk⟩
theorem k_ask (e : Ev) : decide (kindS e = ("ask" : Str)) = isAsk e := by cases e <;> kernel_rfl
theorem eqE {e : Ev} (he : EvOk e) {k : KD} : cmpC .eq (evD e) (.tuple [.str ("ask" : Str)]) k = k (.bool (isAsk e)) := by
  have ev : PyData.eqv (evD e) (.tuple [.str ("ask" : Str)]) = isAsk e := by
    unfold evD
    rw [PyData.eqv, PyData.eqvAll, eqv_str, k_ask]
    cases e <;> rfl
  rw [← ev]
  exact propext ⟨fun h => h.2, fun h => ⟨(ev_nice he).eqOk (ev_nice (e := .ask) trivial) (by omega) (by omega), h⟩⟩
def WDo (rs : List Rw) (n : Nat) (δ : List Sl) : Prop := ∃ s2 s3, δ = [.d (rsD rs), .l ((ddsL 0 (rs.take n)).map ddD), s2, s3]
theorem dds_take {rs : List Rw} {i : Nat} {r : Rw} (h : rs[i]? = some r) : ddsL 0 (rs.take (i + 1)) = ddsL 0 (rs.take i) ++ dd1 i r := by
  have hi := (List.getElem?_eq_some_iff.mp h).1
  rw [List.take_add_one, h]
  show ddsL 0 (rs.take i ++ [r]) = _
  rw [ddsL_snoc, List.length_take, Nat.min_eq_left (by omega), Nat.zero_add]
theorem law_deeds_of : ∀ ds kd er, ds.length = 1 → sp_deeds_of ds kd er → wb G er cb_deeds_of (EdK kd) (startD N_deeds_of ds) := by
  rintro ds kd er - ⟨rs, rfl, hr, hl, hk⟩
  show wb G er cb_deeds_of (EdK kd) [.d (rsD rs), .no, .no, .no]
  unfold cb_deeds_of
  simp only [wb, ws, rd, rq, rg, rl, rp, ri, rn, tgt, setAll, wipeL, Lit.d, Src.dat, List.set_cons_zero, List.set_cons_succ, List.getElem?_cons_zero, List.getElem?_cons_succ, List.map_cons, List.map_nil, List.cons_append, List.nil_append, List.append_nil, List.length_cons, List.length_nil, if_true, Bool.false_eq_true, if_false, Option.some.injEq, PyData.int.injEq, PyData.list.injEq, PyData.str.injEq, PyData.bool.injEq, PyData.tuple.injEq, Sl.m.injEq, Sl.l.injEq, Sl.d.injEq, exists_eq_left', exists_eq_left, true_and, r_sS, r_sl, r_sD, r_add, r_adds, r_addl, r_addt, r_sub, r_mul, r_mull, r_mod, r_fdiv, r_pow, r_lt, r_le, r_gt, r_ge, r_eq, r_eqs, r_eqb, r_ne, r_nes, r_neb, r_isN, r_notN, r_tb, r_ti, r_tl, r_tt, r_tn, r_lenl, r_lent, r_lens, r_lenc, r_int, r_intb, r_abs, r_max, r_min, r_tuple, r_tuplet, r_list, r_listt, r_repr, r_str, r_strs, r_all, r_any, r_idxl, r_idxt, r_idxs, r_idxc, r_slcl, r_slct, r_slcs, r_slcc, r_iteml, r_itemt, r_items, r_call, r_in_s, r_key, r_keys, r_count, r_str_ex, r_in_l, r_in_t, Nat.zero_add, Nat.reduceAdd, List.getD_cons_zero, List.getD_cons_succ, r_count, and_true, exists_const, List.length_map, fn_is_name, sh_is_name, fn_is_path, sh_is_path, fn_is_whole, sh_is_whole, fn_is_tuple_up_to, sh_is_tuple_up_to, fn_text_of, sh_text_of, fn_is_numeral, sh_is_numeral, fn_seal_in, sh_seal_in, fn__law_well, sh__law_well, fn__law_take, sh__law_take, fn__law_line, sh__law_line, fn__law_seal, sh__law_seal, fn__law_left, sh__law_left, fn_is_between, sh_is_between, fn_is_short_path, sh_is_short_path, fn_words_behind, sh_words_behind, fn__law_one, sh__law_one, fn__law_sealed, sh__law_sealed, fn_is_address, sh_is_address, fn_check_number, sh_check_number, fn_is_moment, sh_is_moment, fn_line_of, sh_line_of, fn__law_name, sh__law_name, fn__law_path, sh__law_path, fn__law_answer, sh__law_answer, fn__law_deeds, sh__law_deeds, fn_address_in, sh_address_in, fn_are_links, sh_are_links, fn_journal_line, sh_journal_line, fn_is_deed, sh_is_deed, fn__law_spots, sh__law_spots, fn__law_loose_rows, sh__law_loose_rows, fn_is_some_answer, sh_is_some_answer, fn_behind, sh_behind, sh_behind_1, sh_behind_2, sh_behind_3, fn_answer_of, sh_answer_of, fn_is_some_event, sh_is_some_event, fn_event_of, sh_event_of, fn_is_some_row, sh_is_some_row, fn_check_log, sh_check_log, fn_row_in, sh_row_in, fn_row_at, sh_row_at, fn_deeds_of, sh_deeds_of, sh_deeds_of_1, fn_read_journal, sh_read_journal, fn__law_is_kept, sh__law_is_kept, fn__law_right, sh__law_right, gl_ASK, gl_LETTERS, gl_SIGNS, gl_MOST_LETTERS, gl_MOST_SIGNS, gl_MOST_MOMENT, gl_MOST_MARK, gl_MOST_LINKS, gl_MOST_DIGITS, gl_DIGITS, gl_SEALS, ra, setSl, frzS, isiD, hdC, tlC, forC, rf, r_fmts, r_fmti, r_part, r_rpart, r_split, r_join, exists_eq']
  refine ⟨rs, rfl, hr, by omega, line_le (by omega), WDo rs, ⟨_, _, rfl⟩, ?_, ?_⟩
  · rintro i d δ hd ⟨s2, s3, rfl⟩
    obtain ⟨r, h1, rfl⟩ := rw_at hd
    have hri := hr r (List.mem_of_getElem? h1)
    have hi := (List.getElem?_eq_some_iff.mp h1).1
    have hlen := ddsL_len (rs.take i) 0
    rw [List.length_take] at hlen
    refine ⟨_, rfl, ?_⟩
    simp only [wb, ws, rd, rq, rg, rl, rp, ri, rn, tgt, setAll, wipeL, Lit.d, Src.dat, List.set_cons_zero, List.set_cons_succ, List.getElem?_cons_zero, List.getElem?_cons_succ, List.map_cons, List.map_nil, List.cons_append, List.nil_append, List.append_nil, List.length_cons, List.length_nil, if_true, Bool.false_eq_true, if_false, Option.some.injEq, PyData.int.injEq, PyData.list.injEq, PyData.str.injEq, PyData.bool.injEq, PyData.tuple.injEq, Sl.m.injEq, Sl.l.injEq, Sl.d.injEq, exists_eq_left', exists_eq_left, true_and, r_sS, r_sl, r_sD, r_add, r_adds, r_addl, r_addt, r_sub, r_mul, r_mull, r_mod, r_fdiv, r_pow, r_lt, r_le, r_gt, r_ge, r_eq, r_eqs, r_eqb, r_ne, r_nes, r_neb, r_isN, r_notN, r_tb, r_ti, r_tl, r_tt, r_tn, r_lenl, r_lent, r_lens, r_lenc, r_int, r_intb, r_abs, r_max, r_min, r_tuple, r_tuplet, r_list, r_listt, r_repr, r_str, r_strs, r_all, r_any, r_idxl, r_idxt, r_idxs, r_idxc, r_slcl, r_slct, r_slcs, r_slcc, r_iteml, r_itemt, r_items, r_call, r_in_s, r_key, r_keys, r_count, r_str_ex, r_in_l, r_in_t, Nat.zero_add, Nat.reduceAdd, List.getD_cons_zero, List.getD_cons_succ, r_count, and_true, exists_const, List.length_map, fn_is_name, sh_is_name, fn_is_path, sh_is_path, fn_is_whole, sh_is_whole, fn_is_tuple_up_to, sh_is_tuple_up_to, fn_text_of, sh_text_of, fn_is_numeral, sh_is_numeral, fn_seal_in, sh_seal_in, fn__law_well, sh__law_well, fn__law_take, sh__law_take, fn__law_line, sh__law_line, fn__law_seal, sh__law_seal, fn__law_left, sh__law_left, fn_is_between, sh_is_between, fn_is_short_path, sh_is_short_path, fn_words_behind, sh_words_behind, fn__law_one, sh__law_one, fn__law_sealed, sh__law_sealed, fn_is_address, sh_is_address, fn_check_number, sh_check_number, fn_is_moment, sh_is_moment, fn_line_of, sh_line_of, fn__law_name, sh__law_name, fn__law_path, sh__law_path, fn__law_answer, sh__law_answer, fn__law_deeds, sh__law_deeds, fn_address_in, sh_address_in, fn_are_links, sh_are_links, fn_journal_line, sh_journal_line, fn_is_deed, sh_is_deed, fn__law_spots, sh__law_spots, fn__law_loose_rows, sh__law_loose_rows, fn_is_some_answer, sh_is_some_answer, fn_behind, sh_behind, sh_behind_1, sh_behind_2, sh_behind_3, fn_answer_of, sh_answer_of, fn_is_some_event, sh_is_some_event, fn_event_of, sh_event_of, fn_is_some_row, sh_is_some_row, fn_check_log, sh_check_log, fn_row_in, sh_row_in, fn_row_at, sh_row_at, fn_deeds_of, sh_deeds_of, sh_deeds_of_1, fn_read_journal, sh_read_journal, fn__law_is_kept, sh__law_is_kept, fn__law_right, sh__law_right, gl_ASK, gl_LETTERS, gl_SIGNS, gl_MOST_LETTERS, gl_MOST_SIGNS, gl_MOST_MOMENT, gl_MOST_MARK, gl_MOST_LINKS, gl_MOST_DIGITS, gl_DIGITS, gl_SEALS, ra, setSl, frzS, isiD, hdC, tlC, forC, rf, r_fmts, r_fmti, r_part, r_rpart, r_split, r_join, exists_eq']
    refine ⟨by omega, i, r, rfl, by omega, hri, line_le (by omega), ?_⟩
    refine ⟨evD r.e, rfl, ?_⟩
    show cmpC .eq (evD r.e) (.tuple [.str ("ask" : Str)]) _
    rw [eqE hri.e]
    refine ⟨_, rfl, ?_⟩
    cases hA : isAsk r.e with
    | true =>
      rw [if_pos rfl]
      refine ⟨by simp; omega, _, rfl, _, rfl, line_le (by omega), .d (.int (i : Nat)), .d (rwD r), ?_⟩
      rw [dds_take h1, List.map_append]
      unfold dd1
      rw [hA, if_pos rfl]
      simp [ddD]
    | false =>
      rw [if_neg Bool.false_ne_true]
      refine ⟨.d (.int (i : Nat)), .d (rwD r), ?_⟩
      rw [dds_take h1, List.map_append]
      unfold dd1
      rw [hA, if_neg Bool.false_ne_true]
      simp [ddD]
  · rintro δ ⟨s2, s3, rfl⟩
    rw [enumL_len, List.length_map, List.take_of_length_le (Nat.le_refl _)]
    simp only [wb, ws, rd, rq, rg, rl, rp, ri, rn, tgt, setAll, wipeL, Lit.d, Src.dat, List.set_cons_zero, List.set_cons_succ, List.getElem?_cons_zero, List.getElem?_cons_succ, List.map_cons, List.map_nil, List.cons_append, List.nil_append, List.append_nil, List.length_cons, List.length_nil, if_true, Bool.false_eq_true, if_false, Option.some.injEq, PyData.int.injEq, PyData.list.injEq, PyData.str.injEq, PyData.bool.injEq, PyData.tuple.injEq, Sl.m.injEq, Sl.l.injEq, Sl.d.injEq, exists_eq_left', exists_eq_left, true_and, r_sS, r_sl, r_sD, r_add, r_adds, r_addl, r_addt, r_sub, r_mul, r_mull, r_mod, r_fdiv, r_pow, r_lt, r_le, r_gt, r_ge, r_eq, r_eqs, r_eqb, r_ne, r_nes, r_neb, r_isN, r_notN, r_tb, r_ti, r_tl, r_tt, r_tn, r_lenl, r_lent, r_lens, r_lenc, r_int, r_intb, r_abs, r_max, r_min, r_tuple, r_tuplet, r_list, r_listt, r_repr, r_str, r_strs, r_all, r_any, r_idxl, r_idxt, r_idxs, r_idxc, r_slcl, r_slct, r_slcs, r_slcc, r_iteml, r_itemt, r_items, r_call, r_in_s, r_key, r_keys, r_count, r_str_ex, r_in_l, r_in_t, Nat.zero_add, Nat.reduceAdd, List.getD_cons_zero, List.getD_cons_succ, r_count, and_true, exists_const, List.length_map, fn_is_name, sh_is_name, fn_is_path, sh_is_path, fn_is_whole, sh_is_whole, fn_is_tuple_up_to, sh_is_tuple_up_to, fn_text_of, sh_text_of, fn_is_numeral, sh_is_numeral, fn_seal_in, sh_seal_in, fn__law_well, sh__law_well, fn__law_take, sh__law_take, fn__law_line, sh__law_line, fn__law_seal, sh__law_seal, fn__law_left, sh__law_left, fn_is_between, sh_is_between, fn_is_short_path, sh_is_short_path, fn_words_behind, sh_words_behind, fn__law_one, sh__law_one, fn__law_sealed, sh__law_sealed, fn_is_address, sh_is_address, fn_check_number, sh_check_number, fn_is_moment, sh_is_moment, fn_line_of, sh_line_of, fn__law_name, sh__law_name, fn__law_path, sh__law_path, fn__law_answer, sh__law_answer, fn__law_deeds, sh__law_deeds, fn_address_in, sh_address_in, fn_are_links, sh_are_links, fn_journal_line, sh_journal_line, fn_is_deed, sh_is_deed, fn__law_spots, sh__law_spots, fn__law_loose_rows, sh__law_loose_rows, fn_is_some_answer, sh_is_some_answer, fn_behind, sh_behind, sh_behind_1, sh_behind_2, sh_behind_3, fn_answer_of, sh_answer_of, fn_is_some_event, sh_is_some_event, fn_event_of, sh_event_of, fn_is_some_row, sh_is_some_row, fn_check_log, sh_check_log, fn_row_in, sh_row_in, fn_row_at, sh_row_at, fn_deeds_of, sh_deeds_of, sh_deeds_of_1, fn_read_journal, sh_read_journal, fn__law_is_kept, sh__law_is_kept, fn__law_right, sh__law_right, gl_ASK, gl_LETTERS, gl_SIGNS, gl_MOST_LETTERS, gl_MOST_SIGNS, gl_MOST_MOMENT, gl_MOST_MARK, gl_MOST_LINKS, gl_MOST_DIGITS, gl_DIGITS, gl_SEALS, ra, setSl, frzS, isiD, hdC, tlC, forC, rf, r_fmts, r_fmti, r_part, r_rpart, r_split, r_join, exists_eq']
    exact hk
def WDl (rs : List Rw) (n : Nat) (δ : List Sl) : Prop := ∃ s2 s3 s4 s5, δ = [.d (rsD rs), .l ((ddsL 0 (rs.take n)).map ddD), s2, s3, s4, s5]
theorem law__law_deeds : ∀ ds kd er, ds.length = 1 → sp__law_deeds ds kd er → wb G er cb__law_deeds (EdK kd) (startD N__law_deeds ds) := by
  rintro ds kd er - ⟨rs, rfl, hr, hl, hk⟩
  show wb G er cb__law_deeds (EdK kd) [.d (rsD rs), .no, .no, .no, .no, .no]
  unfold cb__law_deeds
  simp only [wb, ws, rd, rq, rg, rl, rp, ri, rn, tgt, setAll, wipeL, Lit.d, Src.dat, List.set_cons_zero, List.set_cons_succ, List.getElem?_cons_zero, List.getElem?_cons_succ, List.map_cons, List.map_nil, List.cons_append, List.nil_append, List.append_nil, List.length_cons, List.length_nil, if_true, Bool.false_eq_true, if_false, Option.some.injEq, PyData.int.injEq, PyData.list.injEq, PyData.str.injEq, PyData.bool.injEq, PyData.tuple.injEq, Sl.m.injEq, Sl.l.injEq, Sl.d.injEq, exists_eq_left', exists_eq_left, true_and, r_sS, r_sl, r_sD, r_add, r_adds, r_addl, r_addt, r_sub, r_mul, r_mull, r_mod, r_fdiv, r_pow, r_lt, r_le, r_gt, r_ge, r_eq, r_eqs, r_eqb, r_ne, r_nes, r_neb, r_isN, r_notN, r_tb, r_ti, r_tl, r_tt, r_tn, r_lenl, r_lent, r_lens, r_lenc, r_int, r_intb, r_abs, r_max, r_min, r_tuple, r_tuplet, r_list, r_listt, r_repr, r_str, r_strs, r_all, r_any, r_idxl, r_idxt, r_idxs, r_idxc, r_slcl, r_slct, r_slcs, r_slcc, r_iteml, r_itemt, r_items, r_call, r_in_s, r_key, r_keys, r_count, r_str_ex, r_in_l, r_in_t, Nat.zero_add, Nat.reduceAdd, List.getD_cons_zero, List.getD_cons_succ, r_count, and_true, exists_const, List.length_map, fn_is_name, sh_is_name, fn_is_path, sh_is_path, fn_is_whole, sh_is_whole, fn_is_tuple_up_to, sh_is_tuple_up_to, fn_text_of, sh_text_of, fn_is_numeral, sh_is_numeral, fn_seal_in, sh_seal_in, fn__law_well, sh__law_well, fn__law_take, sh__law_take, fn__law_line, sh__law_line, fn__law_seal, sh__law_seal, fn__law_left, sh__law_left, fn_is_between, sh_is_between, fn_is_short_path, sh_is_short_path, fn_words_behind, sh_words_behind, fn__law_one, sh__law_one, fn__law_sealed, sh__law_sealed, fn_is_address, sh_is_address, fn_check_number, sh_check_number, fn_is_moment, sh_is_moment, fn_line_of, sh_line_of, fn__law_name, sh__law_name, fn__law_path, sh__law_path, fn__law_answer, sh__law_answer, fn__law_deeds, sh__law_deeds, fn_address_in, sh_address_in, fn_are_links, sh_are_links, fn_journal_line, sh_journal_line, fn_is_deed, sh_is_deed, fn__law_spots, sh__law_spots, fn__law_loose_rows, sh__law_loose_rows, fn_is_some_answer, sh_is_some_answer, fn_behind, sh_behind, sh_behind_1, sh_behind_2, sh_behind_3, fn_answer_of, sh_answer_of, fn_is_some_event, sh_is_some_event, fn_event_of, sh_event_of, fn_is_some_row, sh_is_some_row, fn_check_log, sh_check_log, fn_row_in, sh_row_in, fn_row_at, sh_row_at, fn_deeds_of, sh_deeds_of, sh_deeds_of_1, fn_read_journal, sh_read_journal, fn__law_is_kept, sh__law_is_kept, fn__law_right, sh__law_right, gl_ASK, gl_LETTERS, gl_SIGNS, gl_MOST_LETTERS, gl_MOST_SIGNS, gl_MOST_MOMENT, gl_MOST_MARK, gl_MOST_LINKS, gl_MOST_DIGITS, gl_DIGITS, gl_SEALS, ra, setSl, frzS, isiD, hdC, tlC, forC, rf, r_fmts, r_fmti, r_part, r_rpart, r_split, r_join, exists_eq']
  have e2 : ((rs.length : Int)).toNat = rs.length := by omega
  rw [e2]
  refine ⟨line_le (by omega), ⟨by omega, by omega⟩, WDl rs, ⟨_, _, _, _, rfl⟩, ?_, ?_⟩
  · rintro i d δ hd ⟨s2, s3, s4, s5, rfl⟩
    obtain ⟨hi, rfl⟩ := rng_at hd
    have h1 : rs[i]? = some rs[i] := List.getElem?_eq_getElem hi
    have hri := hr rs[i] (List.getElem_mem hi)
    have hlen := ddsL_len (rs.take i) 0
    rw [List.length_take] at hlen
    have ha : atI (rs.map rwD) (i : Int) = some (rwD rs[i]) := by rw [atI_natL, List.getElem?_map, h1]; rfl
    generalize rs[i] = r at h1 hri ha
    simp only [wb, ws, rd, rq, rg, rl, rp, ri, rn, tgt, setAll, wipeL, Lit.d, Src.dat, List.set_cons_zero, List.set_cons_succ, List.getElem?_cons_zero, List.getElem?_cons_succ, List.map_cons, List.map_nil, List.cons_append, List.nil_append, List.append_nil, List.length_cons, List.length_nil, if_true, Bool.false_eq_true, if_false, Option.some.injEq, PyData.int.injEq, PyData.list.injEq, PyData.str.injEq, PyData.bool.injEq, PyData.tuple.injEq, Sl.m.injEq, Sl.l.injEq, Sl.d.injEq, exists_eq_left', exists_eq_left, true_and, r_sS, r_sl, r_sD, r_add, r_adds, r_addl, r_addt, r_sub, r_mul, r_mull, r_mod, r_fdiv, r_pow, r_lt, r_le, r_gt, r_ge, r_eq, r_eqs, r_eqb, r_ne, r_nes, r_neb, r_isN, r_notN, r_tb, r_ti, r_tl, r_tt, r_tn, r_lenl, r_lent, r_lens, r_lenc, r_int, r_intb, r_abs, r_max, r_min, r_tuple, r_tuplet, r_list, r_listt, r_repr, r_str, r_strs, r_all, r_any, r_idxl, r_idxt, r_idxs, r_idxc, r_slcl, r_slct, r_slcs, r_slcc, r_iteml, r_itemt, r_items, r_call, r_in_s, r_key, r_keys, r_count, r_str_ex, r_in_l, r_in_t, Nat.zero_add, Nat.reduceAdd, List.getD_cons_zero, List.getD_cons_succ, r_count, and_true, exists_const, List.length_map, fn_is_name, sh_is_name, fn_is_path, sh_is_path, fn_is_whole, sh_is_whole, fn_is_tuple_up_to, sh_is_tuple_up_to, fn_text_of, sh_text_of, fn_is_numeral, sh_is_numeral, fn_seal_in, sh_seal_in, fn__law_well, sh__law_well, fn__law_take, sh__law_take, fn__law_line, sh__law_line, fn__law_seal, sh__law_seal, fn__law_left, sh__law_left, fn_is_between, sh_is_between, fn_is_short_path, sh_is_short_path, fn_words_behind, sh_words_behind, fn__law_one, sh__law_one, fn__law_sealed, sh__law_sealed, fn_is_address, sh_is_address, fn_check_number, sh_check_number, fn_is_moment, sh_is_moment, fn_line_of, sh_line_of, fn__law_name, sh__law_name, fn__law_path, sh__law_path, fn__law_answer, sh__law_answer, fn__law_deeds, sh__law_deeds, fn_address_in, sh_address_in, fn_are_links, sh_are_links, fn_journal_line, sh_journal_line, fn_is_deed, sh_is_deed, fn__law_spots, sh__law_spots, fn__law_loose_rows, sh__law_loose_rows, fn_is_some_answer, sh_is_some_answer, fn_behind, sh_behind, sh_behind_1, sh_behind_2, sh_behind_3, fn_answer_of, sh_answer_of, fn_is_some_event, sh_is_some_event, fn_event_of, sh_event_of, fn_is_some_row, sh_is_some_row, fn_check_log, sh_check_log, fn_row_in, sh_row_in, fn_row_at, sh_row_at, fn_deeds_of, sh_deeds_of, sh_deeds_of_1, fn_read_journal, sh_read_journal, fn__law_is_kept, sh__law_is_kept, fn__law_right, sh__law_right, gl_ASK, gl_LETTERS, gl_SIGNS, gl_MOST_LETTERS, gl_MOST_SIGNS, gl_MOST_MOMENT, gl_MOST_MARK, gl_MOST_LINKS, gl_MOST_DIGITS, gl_DIGITS, gl_SEALS, ra, setSl, frzS, isiD, hdC, tlC, forC, rf, r_fmts, r_fmti, r_part, r_rpart, r_split, r_join, exists_eq']
    refine ⟨_, ha, ?_⟩
    show ∃ δ', _ ∧ _
    refine ⟨_, rfl, ?_⟩
    simp only [wb, ws, rd, rq, rg, rl, rp, ri, rn, tgt, setAll, wipeL, Lit.d, Src.dat, List.set_cons_zero, List.set_cons_succ, List.getElem?_cons_zero, List.getElem?_cons_succ, List.map_cons, List.map_nil, List.cons_append, List.nil_append, List.append_nil, List.length_cons, List.length_nil, if_true, Bool.false_eq_true, if_false, Option.some.injEq, PyData.int.injEq, PyData.list.injEq, PyData.str.injEq, PyData.bool.injEq, PyData.tuple.injEq, Sl.m.injEq, Sl.l.injEq, Sl.d.injEq, exists_eq_left', exists_eq_left, true_and, r_sS, r_sl, r_sD, r_add, r_adds, r_addl, r_addt, r_sub, r_mul, r_mull, r_mod, r_fdiv, r_pow, r_lt, r_le, r_gt, r_ge, r_eq, r_eqs, r_eqb, r_ne, r_nes, r_neb, r_isN, r_notN, r_tb, r_ti, r_tl, r_tt, r_tn, r_lenl, r_lent, r_lens, r_lenc, r_int, r_intb, r_abs, r_max, r_min, r_tuple, r_tuplet, r_list, r_listt, r_repr, r_str, r_strs, r_all, r_any, r_idxl, r_idxt, r_idxs, r_idxc, r_slcl, r_slct, r_slcs, r_slcc, r_iteml, r_itemt, r_items, r_call, r_in_s, r_key, r_keys, r_count, r_str_ex, r_in_l, r_in_t, Nat.zero_add, Nat.reduceAdd, List.getD_cons_zero, List.getD_cons_succ, r_count, and_true, exists_const, List.length_map, fn_is_name, sh_is_name, fn_is_path, sh_is_path, fn_is_whole, sh_is_whole, fn_is_tuple_up_to, sh_is_tuple_up_to, fn_text_of, sh_text_of, fn_is_numeral, sh_is_numeral, fn_seal_in, sh_seal_in, fn__law_well, sh__law_well, fn__law_take, sh__law_take, fn__law_line, sh__law_line, fn__law_seal, sh__law_seal, fn__law_left, sh__law_left, fn_is_between, sh_is_between, fn_is_short_path, sh_is_short_path, fn_words_behind, sh_words_behind, fn__law_one, sh__law_one, fn__law_sealed, sh__law_sealed, fn_is_address, sh_is_address, fn_check_number, sh_check_number, fn_is_moment, sh_is_moment, fn_line_of, sh_line_of, fn__law_name, sh__law_name, fn__law_path, sh__law_path, fn__law_answer, sh__law_answer, fn__law_deeds, sh__law_deeds, fn_address_in, sh_address_in, fn_are_links, sh_are_links, fn_journal_line, sh_journal_line, fn_is_deed, sh_is_deed, fn__law_spots, sh__law_spots, fn__law_loose_rows, sh__law_loose_rows, fn_is_some_answer, sh_is_some_answer, fn_behind, sh_behind, sh_behind_1, sh_behind_2, sh_behind_3, fn_answer_of, sh_answer_of, fn_is_some_event, sh_is_some_event, fn_event_of, sh_event_of, fn_is_some_row, sh_is_some_row, fn_check_log, sh_check_log, fn_row_in, sh_row_in, fn_row_at, sh_row_at, fn_deeds_of, sh_deeds_of, sh_deeds_of_1, fn_read_journal, sh_read_journal, fn__law_is_kept, sh__law_is_kept, fn__law_right, sh__law_right, gl_ASK, gl_LETTERS, gl_SIGNS, gl_MOST_LETTERS, gl_MOST_SIGNS, gl_MOST_MOMENT, gl_MOST_MARK, gl_MOST_LINKS, gl_MOST_DIGITS, gl_DIGITS, gl_SEALS, ra, setSl, frzS, isiD, hdC, tlC, forC, rf, r_fmts, r_fmti, r_part, r_rpart, r_split, r_join, exists_eq']
    refine ⟨by omega, _, ha, i, r, rfl, by omega, hri, line_le (by omega), line_le (by omega), ?_⟩
    show cmpC .eq (evD r.e) (.tuple [.str ("ask" : Str)]) _
    rw [eqE hri.e]
    refine ⟨_, rfl, ?_⟩
    cases hA : isAsk r.e with
    | true =>
      rw [if_pos rfl]
      refine ⟨by simp; omega, line_le (by omega), .d (.int (i : Nat)), .d (.int (r.w : Nat)), .d (adD r.a), .d (evD r.e), ?_⟩
      rw [dds_take h1, List.map_append]
      unfold dd1
      rw [hA, if_pos rfl]
      simp [ddD]
    | false =>
      rw [if_neg Bool.false_ne_true]
      refine ⟨.d (.int (i : Nat)), .d (.int (r.w : Nat)), .d (adD r.a), .d (evD r.e), ?_⟩
      rw [dds_take h1, List.map_append]
      unfold dd1
      rw [hA, if_neg Bool.false_ne_true]
      simp [ddD]
  · rintro δ ⟨s2, s3, s4, s5, rfl⟩
    rw [List.length_range, List.take_of_length_le (Nat.le_refl _)]
    simp only [wb, ws, rd, rq, rg, rl, rp, ri, rn, tgt, setAll, wipeL, Lit.d, Src.dat, List.set_cons_zero, List.set_cons_succ, List.getElem?_cons_zero, List.getElem?_cons_succ, List.map_cons, List.map_nil, List.cons_append, List.nil_append, List.append_nil, List.length_cons, List.length_nil, if_true, Bool.false_eq_true, if_false, Option.some.injEq, PyData.int.injEq, PyData.list.injEq, PyData.str.injEq, PyData.bool.injEq, PyData.tuple.injEq, Sl.m.injEq, Sl.l.injEq, Sl.d.injEq, exists_eq_left', exists_eq_left, true_and, r_sS, r_sl, r_sD, r_add, r_adds, r_addl, r_addt, r_sub, r_mul, r_mull, r_mod, r_fdiv, r_pow, r_lt, r_le, r_gt, r_ge, r_eq, r_eqs, r_eqb, r_ne, r_nes, r_neb, r_isN, r_notN, r_tb, r_ti, r_tl, r_tt, r_tn, r_lenl, r_lent, r_lens, r_lenc, r_int, r_intb, r_abs, r_max, r_min, r_tuple, r_tuplet, r_list, r_listt, r_repr, r_str, r_strs, r_all, r_any, r_idxl, r_idxt, r_idxs, r_idxc, r_slcl, r_slct, r_slcs, r_slcc, r_iteml, r_itemt, r_items, r_call, r_in_s, r_key, r_keys, r_count, r_str_ex, r_in_l, r_in_t, Nat.zero_add, Nat.reduceAdd, List.getD_cons_zero, List.getD_cons_succ, r_count, and_true, exists_const, List.length_map, fn_is_name, sh_is_name, fn_is_path, sh_is_path, fn_is_whole, sh_is_whole, fn_is_tuple_up_to, sh_is_tuple_up_to, fn_text_of, sh_text_of, fn_is_numeral, sh_is_numeral, fn_seal_in, sh_seal_in, fn__law_well, sh__law_well, fn__law_take, sh__law_take, fn__law_line, sh__law_line, fn__law_seal, sh__law_seal, fn__law_left, sh__law_left, fn_is_between, sh_is_between, fn_is_short_path, sh_is_short_path, fn_words_behind, sh_words_behind, fn__law_one, sh__law_one, fn__law_sealed, sh__law_sealed, fn_is_address, sh_is_address, fn_check_number, sh_check_number, fn_is_moment, sh_is_moment, fn_line_of, sh_line_of, fn__law_name, sh__law_name, fn__law_path, sh__law_path, fn__law_answer, sh__law_answer, fn__law_deeds, sh__law_deeds, fn_address_in, sh_address_in, fn_are_links, sh_are_links, fn_journal_line, sh_journal_line, fn_is_deed, sh_is_deed, fn__law_spots, sh__law_spots, fn__law_loose_rows, sh__law_loose_rows, fn_is_some_answer, sh_is_some_answer, fn_behind, sh_behind, sh_behind_1, sh_behind_2, sh_behind_3, fn_answer_of, sh_answer_of, fn_is_some_event, sh_is_some_event, fn_event_of, sh_event_of, fn_is_some_row, sh_is_some_row, fn_check_log, sh_check_log, fn_row_in, sh_row_in, fn_row_at, sh_row_at, fn_deeds_of, sh_deeds_of, sh_deeds_of_1, fn_read_journal, sh_read_journal, fn__law_is_kept, sh__law_is_kept, fn__law_right, sh__law_right, gl_ASK, gl_LETTERS, gl_SIGNS, gl_MOST_LETTERS, gl_MOST_SIGNS, gl_MOST_MOMENT, gl_MOST_MARK, gl_MOST_LINKS, gl_MOST_DIGITS, gl_DIGITS, gl_SEALS, ra, setSl, frzS, isiD, hdC, tlC, forC, rf, r_fmts, r_fmti, r_part, r_rpart, r_split, r_join, exists_eq']
    exact hk
def WWr (ds : List Dd) (n : Nat) (acc : List FR.D) : Prop := acc = (wrL (ds.take n)).map stD
def WAs (ds : List Dd) (n : Nat) (acc : List FR.D) : Prop := acc = (asL (ds.take n)).map fun p => PyData.tuple [.int (p.1 : Nat), adD p.2]
theorem dd_at {ds : List Dd} {i : Nat} {d : FR.D} (h : (ds.map ddD)[i]? = some d) : ∃ x, ds[i]? = some x ∧ d = ddD x := by
  rw [List.getElem?_map] at h
  cases e : ds[i]? with
  | none => rw [e] at h; cases h
  | some x => rw [e] at h; cases h; exact ⟨x, rfl, rfl⟩
theorem wrL_snoc {ds : List Dd} {i : Nat} {x : Dd} (h : ds[i]? = some x) : wrL (ds.take (i + 1)) = wrL (ds.take i) ++ wrL [x] := by
  rw [List.take_add_one, h]
  exact List.filterMap_append
theorem asL_snoc {ds : List Dd} {i : Nat} {x : Dd} (h : ds[i]? = some x) : asL (ds.take (i + 1)) = asL (ds.take i) ++ asL [x] := by
  rw [List.take_add_one, h]
  exact List.filterMap_append
theorem wr_lc {ds : List Dd} (hl : ds.length ≤ 1000) {Q : List FR.D → Prop} (hq : Q ((wrL ds).map stD)) : (ds.map ddD).length ≤ 1000000 ∧ ∃ W : Nat → List FR.D → Prop, W 0 [] ∧ (∀ (i : Nat) (d : FR.D) (acc : List FR.D), (ds.map ddD)[i]? = some d → W i acc → acc.length ≤ i → idxC d (.int 0) fun x => cmpC CO.eq x (.str ("write" : Str)) fun x => ∃ t, truD x = some t ∧ if t = true then idxC d (.int 1) fun x => W (i + 1) (acc ++ [x]) else W (i + 1) acc) ∧ ∀ acc, W (ds.map ddD).length acc → Q acc := by
  refine ⟨by rw [List.length_map]; omega, WWr ds, rfl, ?_, ?_⟩
  · rintro i d acc hd rfl -
    obtain ⟨x, hx, rfl⟩ := dd_at hd
    cases x with
    | w l =>
      refine ⟨_, rfl, ?_⟩
      show cmpC .eq (.str ("write" : Str)) (.str ("write" : Str)) _
      rw [r_eqs, decide_eq_true rfl]
      refine ⟨_, rfl, ?_⟩
      rw [if_pos rfl]
      refine ⟨_, rfl, ?_⟩
      unfold WWr
      rw [wrL_snoc hx, List.map_append]
      rfl
    | a t p =>
      refine ⟨_, rfl, ?_⟩
      show cmpC .eq (.str ("ask" : Str)) (.str ("write" : Str)) _
      rw [r_eqs, ne_wa]
      refine ⟨_, rfl, ?_⟩
      rw [if_neg Bool.false_ne_true]
      unfold WWr
      rw [wrL_snoc hx, List.map_append]
      exact (List.append_nil _).symm
  · intro acc hw
    unfold WWr at hw
    rw [List.length_map, List.take_of_length_le (Nat.le_refl _)] at hw
    rw [hw]
    exact hq
theorem as_lc {ds : List Dd} (hl : ds.length ≤ 1000) {Q : List FR.D → Prop} (hq : Q ((asL ds).map fun p => PyData.tuple [.int (p.1 : Nat), adD p.2])) : (ds.map ddD).length ≤ 1000000 ∧ ∃ W : Nat → List FR.D → Prop, W 0 [] ∧ (∀ (i : Nat) (d : FR.D) (acc : List FR.D), (ds.map ddD)[i]? = some d → W i acc → acc.length ≤ i → idxC d (.int 0) fun x => cmpC CO.eq x (.str ("ask" : Str)) fun x => ∃ t, truD x = some t ∧ if t = true then idxC d (.int 1) fun x => idxC d (.int 2) fun y => 2 ≤ sizeLine ∧ W (i + 1) (acc ++ [.tuple [x, y]]) else W (i + 1) acc) ∧ ∀ acc, W (ds.map ddD).length acc → Q acc := by
  refine ⟨by rw [List.length_map]; omega, WAs ds, rfl, ?_, ?_⟩
  · rintro i d acc hd rfl -
    obtain ⟨x, hx, rfl⟩ := dd_at hd
    cases x with
    | w l =>
      refine ⟨_, rfl, ?_⟩
      show cmpC .eq (.str ("write" : Str)) (.str ("ask" : Str)) _
      rw [r_eqs, ne_aw]
      refine ⟨_, rfl, ?_⟩
      rw [if_neg Bool.false_ne_true]
      unfold WAs
      rw [asL_snoc hx, List.map_append]
      exact (List.append_nil _).symm
    | a t p =>
      refine ⟨_, rfl, ?_⟩
      show cmpC .eq (.str ("ask" : Str)) (.str ("ask" : Str)) _
      rw [r_eqs, decide_eq_true rfl]
      refine ⟨_, rfl, ?_⟩
      rw [if_pos rfl]
      refine ⟨_, rfl, _, rfl, line_le (by omega), ?_⟩
      unfold WAs
      rw [asL_snoc hx, List.map_append]
      rfl
  · intro acc hw
    unfold WAs at hw
    rw [List.length_map, List.take_of_length_le (Nat.le_refl _)] at hw
    rw [hw]
    exact hq
theorem wr_ok {ds : List Dd} (h : ∀ d ∈ ds, DdOk d) : ∀ l ∈ wrL ds, l.length ≤ 1000 := by
  intro l hl
  obtain ⟨d, hd, e⟩ := List.mem_filterMap.mp hl
  cases d with
  | w m => cases e; exact (h _ hd).1
  | a t p => cases e
theorem wr_sum {ds : List Dd} (hl : ds.length ≤ 1000) (h : ∀ d ∈ ds, DdOk d) : (((wrL ds).map mk).map (·.length)).sum ≤ 1000000 := by
  have h1 : (wrL ds).length ≤ ds.length := List.length_filterMap_le _ _
  have h2 := sum_le (f := (fun z : Str => z.length) ∘ mk) (b := 1000) (l := wrL ds) fun x hx => wr_ok h x hx
  rw [List.map_map]
  have : (wrL ds).length * 1000 ≤ 1000 * 1000 := Nat.mul_le_mul_right _ (by omega)
  omega
theorem wr_flat {ds : List Dd} (hl : ds.length ≤ 1000) (h : ∀ d ∈ ds, DdOk d) : (wrL ds).flatten.length ≤ 1000000 := by
  have := wr_sum hl h
  rw [List.map_map] at this
  rw [List.length_flatten]
  exact this
theorem law__law_left : ∀ ds kd er, ds.length = 3 → sp__law_left ds kd er → wb G er cb__law_left (EdK kd) (startD N__law_left ds) := by
  rintro es kd er - ⟨ds, n, t, rfl, ⟨hl, ho⟩, hn, ht, hk⟩
  show wb G er cb__law_left (EdK kd) [.d (.list (ds.map ddD)), .d (.int n), .d (.int t), .no, .no]
  unfold cb__law_left
  simp only [wb, ws, rd, rq, rg, rl, rp, ri, rn, tgt, setAll, wipeL, Lit.d, Src.dat, List.set_cons_zero, List.set_cons_succ, List.getElem?_cons_zero, List.getElem?_cons_succ, List.map_cons, List.map_nil, List.cons_append, List.nil_append, List.append_nil, List.length_cons, List.length_nil, if_true, Bool.false_eq_true, if_false, Option.some.injEq, PyData.int.injEq, PyData.list.injEq, PyData.str.injEq, PyData.bool.injEq, PyData.tuple.injEq, Sl.m.injEq, Sl.l.injEq, Sl.d.injEq, exists_eq_left', exists_eq_left, true_and, r_sS, r_sl, r_sD, r_add, r_adds, r_addl, r_addt, r_sub, r_mul, r_mull, r_mod, r_fdiv, r_pow, r_lt, r_le, r_gt, r_ge, r_eq, r_eqs, r_eqb, r_ne, r_nes, r_neb, r_isN, r_notN, r_tb, r_ti, r_tl, r_tt, r_tn, r_lenl, r_lent, r_lens, r_lenc, r_int, r_intb, r_abs, r_max, r_min, r_tuple, r_tuplet, r_list, r_listt, r_repr, r_str, r_strs, r_all, r_any, r_idxl, r_idxt, r_idxs, r_idxc, r_slcl, r_slct, r_slcs, r_slcc, r_iteml, r_itemt, r_items, r_call, r_in_s, r_key, r_keys, r_count, r_str_ex, r_in_l, r_in_t, Nat.zero_add, Nat.reduceAdd, List.getD_cons_zero, List.getD_cons_succ, r_count, and_true, exists_const, List.length_map, fn_is_name, sh_is_name, fn_is_path, sh_is_path, fn_is_whole, sh_is_whole, fn_is_tuple_up_to, sh_is_tuple_up_to, fn_text_of, sh_text_of, fn_is_numeral, sh_is_numeral, fn_seal_in, sh_seal_in, fn__law_well, sh__law_well, fn__law_take, sh__law_take, fn__law_line, sh__law_line, fn__law_seal, sh__law_seal, fn__law_left, sh__law_left, fn_is_between, sh_is_between, fn_is_short_path, sh_is_short_path, fn_words_behind, sh_words_behind, fn__law_one, sh__law_one, fn__law_sealed, sh__law_sealed, fn_is_address, sh_is_address, fn_check_number, sh_check_number, fn_is_moment, sh_is_moment, fn_line_of, sh_line_of, fn__law_name, sh__law_name, fn__law_path, sh__law_path, fn__law_answer, sh__law_answer, fn__law_deeds, sh__law_deeds, fn_address_in, sh_address_in, fn_are_links, sh_are_links, fn_journal_line, sh_journal_line, fn_is_deed, sh_is_deed, fn__law_spots, sh__law_spots, fn__law_loose_rows, sh__law_loose_rows, fn_is_some_answer, sh_is_some_answer, fn_behind, sh_behind, sh_behind_1, sh_behind_2, sh_behind_3, fn_answer_of, sh_answer_of, fn_is_some_event, sh_is_some_event, fn_event_of, sh_event_of, fn_is_some_row, sh_is_some_row, fn_check_log, sh_check_log, fn_row_in, sh_row_in, fn_row_at, sh_row_at, fn_deeds_of, sh_deeds_of, sh_deeds_of_1, fn_read_journal, sh_read_journal, fn__law_is_kept, sh__law_is_kept, fn__law_right, sh__law_right, gl_ASK, gl_LETTERS, gl_SIGNS, gl_MOST_LETTERS, gl_MOST_SIGNS, gl_MOST_MOMENT, gl_MOST_MARK, gl_MOST_LINKS, gl_MOST_DIGITS, gl_DIGITS, gl_SEALS, ra, setSl, frzS, isiD, hdC, tlC, forC, rf, r_fmts, r_fmti, r_part, r_rpart, r_split, r_join, exists_eq']
  rw [cutL_to, ← List.map_take]
  have hl2 : (ds.take n).length ≤ 1000 := by rw [List.length_take]; omega
  have ho2 : ∀ d ∈ ds.take n, DdOk d := fun d hd => ho d (List.mem_of_mem_take hd)
  have hf := wr_flat hl2 ho2
  refine wr_lc hl2 ⟨(wrL (ds.take n)).map mk, by rw [List.map_map]; rfl, ?_, ?_⟩
  · have := wr_sum hl2 ho2
    rw [no_s]
    show _ + _ * 0 ≤ _
    omega
  rw [no_s, join_mk, joinL_nil]
  unfold leftD at hk
  by_cases h : 0 < (t : Int)
  · rw [if_pos (decide_eq_true h)]
    have h2 : t + 1 ≤ (aftL ds n).length := by omega
    unfold aftL at h2 hk
    cases e : ds[n]? with
    | none => rw [e] at h2; simp at h2
    | some d =>
      cases d with
      | a _ _ => rw [e] at h2; simp at h2
      | w l =>
        rw [e] at h2 hk
        have hll := (ho _ (List.mem_of_getElem? e)).1
        refine ⟨ddD (.w l), by rw [atI_natL, List.getElem?_map, e]; rfl, stD l, rfl, line_le (show l.length ≤ _ by omega), ?_⟩
        rw [mk_cut, cutL_to]
        refine ⟨line_le (show (wrL (ds.take n)).flatten.length + (l.take t).length ≤ _ by rw [List.length_take]; omega), ?_⟩
        rw [mk_app]
        exact as_lc hl2 ⟨line_le (by omega), hk⟩
  · rw [if_neg (by rw [decide_eq_false h]; exact Bool.false_ne_true)]
    have e0 : t = 0 := by omega
    subst e0
    rw [List.take_zero, List.append_nil] at hk
    exact as_lc hl2 ⟨line_le (by omega), hk⟩
def WBe (ds : List Dd) (n t : Nat) (_ : Nat) (δ : List Sl) : Prop := ∃ s3 s4, δ = [.d (ddsD ds), .d (.int n), .d (.int t), s3, s4, .no, .no, .no]
theorem law_behind : ∀ ds kd er, ds.length = 3 → sp_behind ds kd er → wb G er cb_behind (EdK kd) (startD N_behind ds) := by
  rintro es kd er - ⟨ds, n, t, rfl, ⟨hl, ho⟩, hn, ht, hk⟩
  show wb G er cb_behind (EdK kd) [.d (ddsD ds), .d (.int n), .d (.int t), .no, .no, .no, .no, .no]
  have hl2 : (ds.take n).length ≤ 1000 := by rw [List.length_take]; omega
  have ho2 : ∀ d ∈ ds.take n, DdOk d := fun d hd => ho d (List.mem_of_mem_take hd)
  have hf := wr_flat hl2 ho2
  unfold cb_behind
  simp only [wb, ws, rd, rq, rg, rl, rp, ri, rn, tgt, setAll, wipeL, Lit.d, Src.dat, List.set_cons_zero, List.set_cons_succ, List.getElem?_cons_zero, List.getElem?_cons_succ, List.map_cons, List.map_nil, List.cons_append, List.nil_append, List.append_nil, List.length_cons, List.length_nil, if_true, Bool.false_eq_true, if_false, Option.some.injEq, PyData.int.injEq, PyData.list.injEq, PyData.str.injEq, PyData.bool.injEq, PyData.tuple.injEq, Sl.m.injEq, Sl.l.injEq, Sl.d.injEq, exists_eq_left', exists_eq_left, true_and, r_sS, r_sl, r_sD, r_add, r_adds, r_addl, r_addt, r_sub, r_mul, r_mull, r_mod, r_fdiv, r_pow, r_lt, r_le, r_gt, r_ge, r_eq, r_eqs, r_eqb, r_ne, r_nes, r_neb, r_isN, r_notN, r_tb, r_ti, r_tl, r_tt, r_tn, r_lenl, r_lent, r_lens, r_lenc, r_int, r_intb, r_abs, r_max, r_min, r_tuple, r_tuplet, r_list, r_listt, r_repr, r_str, r_strs, r_all, r_any, r_idxl, r_idxt, r_idxs, r_idxc, r_slcl, r_slct, r_slcs, r_slcc, r_iteml, r_itemt, r_items, r_call, r_in_s, r_key, r_keys, r_count, r_str_ex, r_in_l, r_in_t, Nat.zero_add, Nat.reduceAdd, List.getD_cons_zero, List.getD_cons_succ, r_count, and_true, exists_const, List.length_map, fn_is_name, sh_is_name, fn_is_path, sh_is_path, fn_is_whole, sh_is_whole, fn_is_tuple_up_to, sh_is_tuple_up_to, fn_text_of, sh_text_of, fn_is_numeral, sh_is_numeral, fn_seal_in, sh_seal_in, fn__law_well, sh__law_well, fn__law_take, sh__law_take, fn__law_line, sh__law_line, fn__law_seal, sh__law_seal, fn__law_left, sh__law_left, fn_is_between, sh_is_between, fn_is_short_path, sh_is_short_path, fn_words_behind, sh_words_behind, fn__law_one, sh__law_one, fn__law_sealed, sh__law_sealed, fn_is_address, sh_is_address, fn_check_number, sh_check_number, fn_is_moment, sh_is_moment, fn_line_of, sh_line_of, fn__law_name, sh__law_name, fn__law_path, sh__law_path, fn__law_answer, sh__law_answer, fn__law_deeds, sh__law_deeds, fn_address_in, sh_address_in, fn_are_links, sh_are_links, fn_journal_line, sh_journal_line, fn_is_deed, sh_is_deed, fn__law_spots, sh__law_spots, fn__law_loose_rows, sh__law_loose_rows, fn_is_some_answer, sh_is_some_answer, fn_behind, sh_behind, sh_behind_1, sh_behind_2, sh_behind_3, fn_answer_of, sh_answer_of, fn_is_some_event, sh_is_some_event, fn_event_of, sh_event_of, fn_is_some_row, sh_is_some_row, fn_check_log, sh_check_log, fn_row_in, sh_row_in, fn_row_at, sh_row_at, fn_deeds_of, sh_deeds_of, sh_deeds_of_1, fn_read_journal, sh_read_journal, fn__law_is_kept, sh__law_is_kept, fn__law_right, sh__law_right, gl_ASK, gl_LETTERS, gl_SIGNS, gl_MOST_LETTERS, gl_MOST_SIGNS, gl_MOST_MOMENT, gl_MOST_MARK, gl_MOST_LINKS, gl_MOST_DIGITS, gl_DIGITS, gl_SEALS, ra, setSl, frzS, isiD, hdC, tlC, forC, rf, r_fmts, r_fmti, r_part, r_rpart, r_split, r_join, exists_eq']
  rw [show (["tuple"].any (tyIs (tyNm (ddsD ds)))) = true from rfl, Bool.not_true, if_neg Bool.false_ne_true]
  refine ⟨WBe ds n t, ⟨_, _, rfl⟩, ?_, ?_⟩
  · rintro i d δ hd ⟨s3, s4, rfl⟩
    obtain ⟨y, h1, h2⟩ := enumL_get _ 0 i d hd
    obtain ⟨x, hx, rfl⟩ := dd_at h1
    subst h2
    refine ⟨_, rfl, ?_⟩
    simp only [wb, ws, rd, rq, rg, rl, rp, ri, rn, tgt, setAll, wipeL, Lit.d, Src.dat, List.set_cons_zero, List.set_cons_succ, List.getElem?_cons_zero, List.getElem?_cons_succ, List.map_cons, List.map_nil, List.cons_append, List.nil_append, List.append_nil, List.length_cons, List.length_nil, if_true, Bool.false_eq_true, if_false, Option.some.injEq, PyData.int.injEq, PyData.list.injEq, PyData.str.injEq, PyData.bool.injEq, PyData.tuple.injEq, Sl.m.injEq, Sl.l.injEq, Sl.d.injEq, exists_eq_left', exists_eq_left, true_and, r_sS, r_sl, r_sD, r_add, r_adds, r_addl, r_addt, r_sub, r_mul, r_mull, r_mod, r_fdiv, r_pow, r_lt, r_le, r_gt, r_ge, r_eq, r_eqs, r_eqb, r_ne, r_nes, r_neb, r_isN, r_notN, r_tb, r_ti, r_tl, r_tt, r_tn, r_lenl, r_lent, r_lens, r_lenc, r_int, r_intb, r_abs, r_max, r_min, r_tuple, r_tuplet, r_list, r_listt, r_repr, r_str, r_strs, r_all, r_any, r_idxl, r_idxt, r_idxs, r_idxc, r_slcl, r_slct, r_slcs, r_slcc, r_iteml, r_itemt, r_items, r_call, r_in_s, r_key, r_keys, r_count, r_str_ex, r_in_l, r_in_t, Nat.zero_add, Nat.reduceAdd, List.getD_cons_zero, List.getD_cons_succ, r_count, and_true, exists_const, List.length_map, fn_is_name, sh_is_name, fn_is_path, sh_is_path, fn_is_whole, sh_is_whole, fn_is_tuple_up_to, sh_is_tuple_up_to, fn_text_of, sh_text_of, fn_is_numeral, sh_is_numeral, fn_seal_in, sh_seal_in, fn__law_well, sh__law_well, fn__law_take, sh__law_take, fn__law_line, sh__law_line, fn__law_seal, sh__law_seal, fn__law_left, sh__law_left, fn_is_between, sh_is_between, fn_is_short_path, sh_is_short_path, fn_words_behind, sh_words_behind, fn__law_one, sh__law_one, fn__law_sealed, sh__law_sealed, fn_is_address, sh_is_address, fn_check_number, sh_check_number, fn_is_moment, sh_is_moment, fn_line_of, sh_line_of, fn__law_name, sh__law_name, fn__law_path, sh__law_path, fn__law_answer, sh__law_answer, fn__law_deeds, sh__law_deeds, fn_address_in, sh_address_in, fn_are_links, sh_are_links, fn_journal_line, sh_journal_line, fn_is_deed, sh_is_deed, fn__law_spots, sh__law_spots, fn__law_loose_rows, sh__law_loose_rows, fn_is_some_answer, sh_is_some_answer, fn_behind, sh_behind, sh_behind_1, sh_behind_2, sh_behind_3, fn_answer_of, sh_answer_of, fn_is_some_event, sh_is_some_event, fn_event_of, sh_event_of, fn_is_some_row, sh_is_some_row, fn_check_log, sh_check_log, fn_row_in, sh_row_in, fn_row_at, sh_row_at, fn_deeds_of, sh_deeds_of, sh_deeds_of_1, fn_read_journal, sh_read_journal, fn__law_is_kept, sh__law_is_kept, fn__law_right, sh__law_right, gl_ASK, gl_LETTERS, gl_SIGNS, gl_MOST_LETTERS, gl_MOST_SIGNS, gl_MOST_MOMENT, gl_MOST_MARK, gl_MOST_LINKS, gl_MOST_DIGITS, gl_DIGITS, gl_SEALS, ra, setSl, frzS, isiD, hdC, tlC, forC, rf, r_fmts, r_fmti, r_part, r_rpart, r_split, r_join, exists_eq']
    exact ⟨x, rfl, ho x (List.mem_of_getElem? hx), true, rfl, _, _, rfl⟩
  · rintro δ ⟨s3, s4, rfl⟩
    simp only [wb, ws, rd, rq, rg, rl, rp, ri, rn, tgt, setAll, wipeL, Lit.d, Src.dat, List.set_cons_zero, List.set_cons_succ, List.getElem?_cons_zero, List.getElem?_cons_succ, List.map_cons, List.map_nil, List.cons_append, List.nil_append, List.append_nil, List.length_cons, List.length_nil, if_true, Bool.false_eq_true, if_false, Option.some.injEq, PyData.int.injEq, PyData.list.injEq, PyData.str.injEq, PyData.bool.injEq, PyData.tuple.injEq, Sl.m.injEq, Sl.l.injEq, Sl.d.injEq, exists_eq_left', exists_eq_left, true_and, r_sS, r_sl, r_sD, r_add, r_adds, r_addl, r_addt, r_sub, r_mul, r_mull, r_mod, r_fdiv, r_pow, r_lt, r_le, r_gt, r_ge, r_eq, r_eqs, r_eqb, r_ne, r_nes, r_neb, r_isN, r_notN, r_tb, r_ti, r_tl, r_tt, r_tn, r_lenl, r_lent, r_lens, r_lenc, r_int, r_intb, r_abs, r_max, r_min, r_tuple, r_tuplet, r_list, r_listt, r_repr, r_str, r_strs, r_all, r_any, r_idxl, r_idxt, r_idxs, r_idxc, r_slcl, r_slct, r_slcs, r_slcc, r_iteml, r_itemt, r_items, r_call, r_in_s, r_key, r_keys, r_count, r_str_ex, r_in_l, r_in_t, Nat.zero_add, Nat.reduceAdd, List.getD_cons_zero, List.getD_cons_succ, r_count, and_true, exists_const, List.length_map, fn_is_name, sh_is_name, fn_is_path, sh_is_path, fn_is_whole, sh_is_whole, fn_is_tuple_up_to, sh_is_tuple_up_to, fn_text_of, sh_text_of, fn_is_numeral, sh_is_numeral, fn_seal_in, sh_seal_in, fn__law_well, sh__law_well, fn__law_take, sh__law_take, fn__law_line, sh__law_line, fn__law_seal, sh__law_seal, fn__law_left, sh__law_left, fn_is_between, sh_is_between, fn_is_short_path, sh_is_short_path, fn_words_behind, sh_words_behind, fn__law_one, sh__law_one, fn__law_sealed, sh__law_sealed, fn_is_address, sh_is_address, fn_check_number, sh_check_number, fn_is_moment, sh_is_moment, fn_line_of, sh_line_of, fn__law_name, sh__law_name, fn__law_path, sh__law_path, fn__law_answer, sh__law_answer, fn__law_deeds, sh__law_deeds, fn_address_in, sh_address_in, fn_are_links, sh_are_links, fn_journal_line, sh_journal_line, fn_is_deed, sh_is_deed, fn__law_spots, sh__law_spots, fn__law_loose_rows, sh__law_loose_rows, fn_is_some_answer, sh_is_some_answer, fn_behind, sh_behind, sh_behind_1, sh_behind_2, sh_behind_3, fn_answer_of, sh_answer_of, fn_is_some_event, sh_is_some_event, fn_event_of, sh_event_of, fn_is_some_row, sh_is_some_row, fn_check_log, sh_check_log, fn_row_in, sh_row_in, fn_row_at, sh_row_at, fn_deeds_of, sh_deeds_of, sh_deeds_of_1, fn_read_journal, sh_read_journal, fn__law_is_kept, sh__law_is_kept, fn__law_right, sh__law_right, gl_ASK, gl_LETTERS, gl_SIGNS, gl_MOST_LETTERS, gl_MOST_SIGNS, gl_MOST_MOMENT, gl_MOST_MARK, gl_MOST_LINKS, gl_MOST_DIGITS, gl_DIGITS, gl_SEALS, ra, setSl, frzS, isiD, hdC, tlC, forC, rf, r_fmts, r_fmti, r_part, r_rpart, r_split, r_join, exists_eq']
    refine ⟨_, _, _, rfl, by omega, by omega, ?_⟩
    rw [cutL_to, ← List.map_take]
    refine wr_lc hl2 ⟨(wrL (ds.take n)).map mk, by rw [List.map_map]; rfl, ?_, ?_⟩
    · have := wr_sum hl2 ho2
      rw [no_s]
      show _ + _ * 0 ≤ _
      omega
    rw [no_s, join_mk, joinL_nil]
    have slc : ∀ l : TX, aftL ds n = l → l.length ≤ 1000 → slcC (stD l) none (some (t : Int)) fun y => binC .add (.str (mk (wrL (ds.take n)).flatten)) y fun x => 2 ≤ sizeLine ∧ kd (.tuple [x, .tuple ((asL (ds.take n)).map fun p => PyData.tuple [.int (p.1 : Nat), adD p.2])]) := fun l e hle => by
      unfold leftD at hk
      rw [e] at hk
      refine ⟨line_le (show l.length ≤ _ by omega), ?_⟩
      rw [mk_cut, cutL_to]
      refine ⟨line_le (show (wrL (ds.take n)).flatten.length + (l.take t).length ≤ _ by rw [List.length_take]; omega), ?_⟩
      rw [mk_app]
      exact ⟨line_le (by omega), hk⟩
    have mx : ∀ l : TX, aftL ds n = l → (t : Int) ≤ (if ((mk l).length : Int) - 1 > 0 then ((mk l).length : Int) - 1 else 0) := fun l e => by
      rw [e] at ht
      have : (mk l).length = l.length := rfl
      rw [this]
      split <;> omega
    by_cases h : (n : Int) < ds.length
    · rw [if_pos (decide_eq_true h)]
      have hx : ds[n]? = some ds[n] := List.getElem?_eq_getElem (by omega)
      have hd := ho ds[n] (List.getElem_mem (by omega))
      generalize ds[n] = x at hx hd
      refine ⟨ddD x, by rw [atI_natL, List.getElem?_map, hx]; rfl, ?_⟩
      cases x with
      | w l =>
        have e : aftL ds n = l := by unfold aftL; rw [hx]
        refine ⟨_, rfl, ?_⟩
        show cmpC .eq (.str ("write" : Str)) (.str ("write" : Str)) _
        rw [r_eqs, decide_eq_true rfl]
        refine ⟨_, rfl, ?_⟩
        rw [if_pos rfl]
        exact ⟨ddD (.w l), by rw [atI_natL, List.getElem?_map, hx]; rfl, stD l, rfl, line_le (show l.length ≤ _ by have := hd.1; omega), _, _, _, rfl, by omega, mx l e, as_lc hl2 (slc l e hd.1)⟩
      | a q p =>
        have e : aftL ds n = [] := by unfold aftL; rw [hx]
        refine ⟨_, rfl, ?_⟩
        show cmpC .eq (.str ("ask" : Str)) (.str ("write" : Str)) _
        rw [r_eqs, ne_wa]
        refine ⟨_, rfl, ?_⟩
        rw [if_neg Bool.false_ne_true]
        exact ⟨line_le (show 0 ≤ _ by omega), _, _, _, rfl, by omega, mx [] e, as_lc hl2 (slc [] e (by simp))⟩
    · rw [if_neg (by rw [decide_eq_false h]; exact Bool.false_ne_true)]
      have e : aftL ds n = [] := by unfold aftL; rw [List.getElem?_eq_none (by omega)]
      exact ⟨line_le (show 0 ≤ _ by omega), _, _, _, rfl, by omega, mx [] e, as_lc hl2 (slc [] e (by simp))⟩
end K47

namespace K47
open PySem L2 PyProof.Rows FR
theorem ask_nice {l : List (Nat × Ad)} {m : Nat} (hl : l.length ≤ m) (h : ∀ p ∈ l, p.1 ≤ 999999999999 ∧ AdOk p.2) : NiceA 2 (2 * (811 + 2) + 3) m (l.map fun p => PyData.tuple [.int (p.1 : Nat), adD p.2]) :=
  NiceA.map hl fun p hp => (NiceA.cons ((Nice.nat (i := p.1) (by have := (h p hp).1; omega)).mono (n' := 1) (w' := 811) (by omega) (by omega)) (.cons (ad_nice (h p hp).2) .nil)).tuple
theorem ask_ok {rs : List Rw} (hr : ∀ r ∈ rs, RwOk r) : ∀ p ∈ askL rs, p.1 ≤ 999999999999 ∧ AdOk p.2 := by
  intro p hp
  obtain ⟨r, h1, rfl⟩ := List.mem_map.mp hp
  have := hr r (List.mem_filter.mp h1).1
  exact ⟨this.w, this.a⟩
theorem aft_free {rs : List Rw} (hr : ∀ r ∈ rs, RwOk r) : ∀ (k n : Nat) (t : Nat), (t = 0 ∨ t + 1 ≤ (aftL (ddsL k rs) n).length) → 10 ∉ (aftL (ddsL k rs) n).take t := by
  induction rs with
  | nil => intro k n t _; simp [ddsL, aftL]
  | cons r rs ih =>
    intro k n t ht
    have ih := ih fun r hr' => hr r (List.mem_cons_of_mem _ hr')
    have hj := jl_free (hr r List.mem_cons_self) (k := k)
    match n with
    | 0 =>
      have e : aftL (ddsL k (r :: rs)) 0 = jlL k r ++ [10] := rfl
      rw [e] at ht ⊢
      rw [List.length_append, List.length_singleton] at ht
      rw [List.take_append_of_le_length (by omega)]
      exact fun z => hj (List.mem_of_mem_take z)
    | n + 1 =>
      cases h : isAsk r.e with
      | true =>
        match n with
        | 0 =>
          have e : aftL (ddsL k (r :: rs)) 1 = [] := by simp [aftL, ddsL, dd1, h]
          rw [e]; simp
        | n + 1 =>
          have e : aftL (ddsL k (r :: rs)) (n + 1 + 1) = aftL (ddsL (k + 1) rs) n := by simp [aftL, ddsL, dd1, h]
          rw [e] at ht ⊢
          exact ih (k + 1) n t ht
      | false =>
        have e : aftL (ddsL k (r :: rs)) (n + 1) = aftL (ddsL (k + 1) rs) n := by simp [aftL, ddsL, dd1, h]
        rw [e] at ht ⊢
        exact ih (k + 1) n t ht
def WAk (rs : List Rw) (m : Nat) (acc : List FR.D) : Prop := acc = (askL (rs.take m)).map fun p => PyData.tuple [.int (p.1 : Nat), adD p.2]
theorem askL_snoc {rs : List Rw} {i : Nat} {r : Rw} (h : rs[i]? = some r) : askL (rs.take (i + 1)) = askL (rs.take i) ++ askL [r] := by
  rw [List.take_add_one, h]
  unfold askL
  rw [List.filter_append, List.map_append]
  rfl
theorem law__law_is_kept : ∀ ds kd er, ds.length = 2 → sp__law_is_kept ds kd er → wb G er cb__law_is_kept (EdK kd) (startD N__law_is_kept ds) := by
  rintro es kd er - ⟨rs, n, t, rfl, hr, hl, ht, hk⟩
  show wb G er cb__law_is_kept (EdK kd) [.d (rsD rs), .d (leftD (ddsL 0 rs) n t), .no, .no, .no]
  obtain ⟨j, hj, h1, h2⟩ := cut_text rs n
  have hr2 : ∀ r ∈ rs.take j, RwOk r := fun r hm => hr r (List.mem_of_mem_take hm)
  have hl2 : (rs.take j).length ≤ 12 := by rw [List.length_take]; omega
  have hlj : (rs.take j).length = j := by rw [List.length_take]; omega
  have t10 := aft_free hr 0 n t ht
  have tl : ((aftL (ddsL 0 rs) n).take t).length ≤ 1000 := by
    have hd := ddsL_ok rs 0 (by omega) hr
    rw [List.length_take]
    refine Nat.le_trans (Nat.min_le_right _ _) ?_
    unfold aftL
    cases e : (ddsL 0 rs)[n]? with
    | none => simp
    | some d =>
      cases d with
      | w l => exact (hd _ (List.mem_of_getElem? e)).1
      | a _ _ => simp
  unfold cb__law_is_kept leftD
  simp only [wb, ws, rd, rq, rg, rl, rp, ri, rn, tgt, setAll, wipeL, Lit.d, Src.dat, List.set_cons_zero, List.set_cons_succ, List.getElem?_cons_zero, List.getElem?_cons_succ, List.map_cons, List.map_nil, List.cons_append, List.nil_append, List.append_nil, List.length_cons, List.length_nil, if_true, Bool.false_eq_true, if_false, Option.some.injEq, PyData.int.injEq, PyData.list.injEq, PyData.str.injEq, PyData.bool.injEq, PyData.tuple.injEq, Sl.m.injEq, Sl.l.injEq, Sl.d.injEq, exists_eq_left', exists_eq_left, true_and, r_sS, r_sl, r_sD, r_add, r_adds, r_addl, r_addt, r_sub, r_mul, r_mull, r_mod, r_fdiv, r_pow, r_lt, r_le, r_gt, r_ge, r_eq, r_eqs, r_eqb, r_ne, r_nes, r_neb, r_isN, r_notN, r_tb, r_ti, r_tl, r_tt, r_tn, r_lenl, r_lent, r_lens, r_lenc, r_int, r_intb, r_abs, r_max, r_min, r_tuple, r_tuplet, r_list, r_listt, r_repr, r_str, r_strs, r_all, r_any, r_idxl, r_idxt, r_idxs, r_idxc, r_slcl, r_slct, r_slcs, r_slcc, r_iteml, r_itemt, r_items, r_call, r_in_s, r_key, r_keys, r_count, r_str_ex, r_in_l, r_in_t, Nat.zero_add, Nat.reduceAdd, List.getD_cons_zero, List.getD_cons_succ, r_count, and_true, exists_const, List.length_map, fn_is_name, sh_is_name, fn_is_path, sh_is_path, fn_is_whole, sh_is_whole, fn_is_tuple_up_to, sh_is_tuple_up_to, fn_text_of, sh_text_of, fn_is_numeral, sh_is_numeral, fn_seal_in, sh_seal_in, fn__law_well, sh__law_well, fn__law_take, sh__law_take, fn__law_line, sh__law_line, fn__law_seal, sh__law_seal, fn__law_left, sh__law_left, fn_is_between, sh_is_between, fn_is_short_path, sh_is_short_path, fn_words_behind, sh_words_behind, fn__law_one, sh__law_one, fn__law_sealed, sh__law_sealed, fn_is_address, sh_is_address, fn_check_number, sh_check_number, fn_is_moment, sh_is_moment, fn_line_of, sh_line_of, fn__law_name, sh__law_name, fn__law_path, sh__law_path, fn__law_answer, sh__law_answer, fn__law_deeds, sh__law_deeds, fn_address_in, sh_address_in, fn_are_links, sh_are_links, fn_journal_line, sh_journal_line, fn_is_deed, sh_is_deed, fn__law_spots, sh__law_spots, fn__law_loose_rows, sh__law_loose_rows, fn_is_some_answer, sh_is_some_answer, fn_behind, sh_behind, sh_behind_1, sh_behind_2, sh_behind_3, fn_answer_of, sh_answer_of, fn_is_some_event, sh_is_some_event, fn_event_of, sh_event_of, fn_is_some_row, sh_is_some_row, fn_check_log, sh_check_log, fn_row_in, sh_row_in, fn_row_at, sh_row_at, fn_deeds_of, sh_deeds_of, sh_deeds_of_1, fn_read_journal, sh_read_journal, fn__law_is_kept, sh__law_is_kept, fn__law_right, sh__law_right, gl_ASK, gl_LETTERS, gl_SIGNS, gl_MOST_LETTERS, gl_MOST_SIGNS, gl_MOST_MOMENT, gl_MOST_MARK, gl_MOST_LINKS, gl_MOST_DIGITS, gl_DIGITS, gl_SEALS, ra, setSl, frzS, isiD, hdC, tlC, forC, rf, r_fmts, r_fmti, r_part, r_rpart, r_split, r_join, exists_eq']
  rw [h1]
  refine ⟨_, rfl, rs.take j, _, rfl, hr2, by omega, t10, by omega, ?_⟩
  have rr : reprOk (rsD (rs.take j)) := (rs_nice hl2 hr2).repr (by omega) (by omega)
  have ec : cutL (rs.map rwD) none (some (((rs.take j).map rwD).length : Int)) = (rs.take j).map rwD := by
    rw [cutL_to, List.length_map, hlj, ← List.map_take]
  refine ⟨true, rfl, ?_⟩
  rw [Bool.not_true, if_neg Bool.false_ne_true]
  refine ⟨rr, _, rfl, ?_⟩
  rw [ec]
  refine ⟨rr, ?_⟩
  rw [decide_eq_true rfl, Bool.not_true, if_neg Bool.false_ne_true]
  refine ⟨_, rfl, ?_⟩
  rw [ec]
  refine ⟨by rw [List.length_map]; omega, WAk (rs.take j), rfl, ?_, ?_⟩
  · rintro i d acc hd rfl -
    rw [List.getElem?_map] at hd
    cases e : (rs.take j)[i]? with
    | none => rw [e] at hd; cases hd
    | some r =>
      rw [e] at hd
      cases hd
      have hri := hr2 r (List.mem_of_getElem? e)
      refine ⟨evD r.e, rfl, line_le (by omega), ?_⟩
      show cmpC .eq (evD r.e) (.tuple [.str ("ask" : Str)]) _
      rw [eqE hri.e]
      refine ⟨_, rfl, ?_⟩
      cases hA : isAsk r.e with
      | true =>
        rw [if_pos rfl]
        refine ⟨_, rfl, _, rfl, line_le (by omega), ?_⟩
        unfold WAk
        rw [askL_snoc e, List.map_append]
        simp [askL, hA]
      | false =>
        rw [if_neg Bool.false_ne_true]
        unfold WAk
        rw [askL_snoc e, List.map_append]
        simp [askL, hA]
  · intro acc hw
    unfold WAk at hw
    rw [List.length_map, List.take_of_length_le (Nat.le_refl _)] at hw
    subst hw
    refine ⟨_, rfl, ?_⟩
    simp only [wb, ws, rd, rq, rg, rl, rp, ri, rn, tgt, setAll, wipeL, Lit.d, Src.dat, List.set_cons_zero, List.set_cons_succ, List.getElem?_cons_zero, List.getElem?_cons_succ, List.map_cons, List.map_nil, List.cons_append, List.nil_append, List.append_nil, List.length_cons, List.length_nil, if_true, Bool.false_eq_true, if_false, Option.some.injEq, PyData.int.injEq, PyData.list.injEq, PyData.str.injEq, PyData.bool.injEq, PyData.tuple.injEq, Sl.m.injEq, Sl.l.injEq, Sl.d.injEq, exists_eq_left', exists_eq_left, true_and, r_sS, r_sl, r_sD, r_add, r_adds, r_addl, r_addt, r_sub, r_mul, r_mull, r_mod, r_fdiv, r_pow, r_lt, r_le, r_gt, r_ge, r_eq, r_eqs, r_eqb, r_ne, r_nes, r_neb, r_isN, r_notN, r_tb, r_ti, r_tl, r_tt, r_tn, r_lenl, r_lent, r_lens, r_lenc, r_int, r_intb, r_abs, r_max, r_min, r_tuple, r_tuplet, r_list, r_listt, r_repr, r_str, r_strs, r_all, r_any, r_idxl, r_idxt, r_idxs, r_idxc, r_slcl, r_slct, r_slcs, r_slcc, r_iteml, r_itemt, r_items, r_call, r_in_s, r_key, r_keys, r_count, r_str_ex, r_in_l, r_in_t, Nat.zero_add, Nat.reduceAdd, List.getD_cons_zero, List.getD_cons_succ, r_count, and_true, exists_const, List.length_map, fn_is_name, sh_is_name, fn_is_path, sh_is_path, fn_is_whole, sh_is_whole, fn_is_tuple_up_to, sh_is_tuple_up_to, fn_text_of, sh_text_of, fn_is_numeral, sh_is_numeral, fn_seal_in, sh_seal_in, fn__law_well, sh__law_well, fn__law_take, sh__law_take, fn__law_line, sh__law_line, fn__law_seal, sh__law_seal, fn__law_left, sh__law_left, fn_is_between, sh_is_between, fn_is_short_path, sh_is_short_path, fn_words_behind, sh_words_behind, fn__law_one, sh__law_one, fn__law_sealed, sh__law_sealed, fn_is_address, sh_is_address, fn_check_number, sh_check_number, fn_is_moment, sh_is_moment, fn_line_of, sh_line_of, fn__law_name, sh__law_name, fn__law_path, sh__law_path, fn__law_answer, sh__law_answer, fn__law_deeds, sh__law_deeds, fn_address_in, sh_address_in, fn_are_links, sh_are_links, fn_journal_line, sh_journal_line, fn_is_deed, sh_is_deed, fn__law_spots, sh__law_spots, fn__law_loose_rows, sh__law_loose_rows, fn_is_some_answer, sh_is_some_answer, fn_behind, sh_behind, sh_behind_1, sh_behind_2, sh_behind_3, fn_answer_of, sh_answer_of, fn_is_some_event, sh_is_some_event, fn_event_of, sh_event_of, fn_is_some_row, sh_is_some_row, fn_check_log, sh_check_log, fn_row_in, sh_row_in, fn_row_at, sh_row_at, fn_deeds_of, sh_deeds_of, sh_deeds_of_1, fn_read_journal, sh_read_journal, fn__law_is_kept, sh__law_is_kept, fn__law_right, sh__law_right, gl_ASK, gl_LETTERS, gl_SIGNS, gl_MOST_LETTERS, gl_MOST_SIGNS, gl_MOST_MOMENT, gl_MOST_MARK, gl_MOST_LINKS, gl_MOST_DIGITS, gl_DIGITS, gl_SEALS, ra, setSl, frzS, isiD, hdC, tlC, forC, rf, r_fmts, r_fmti, r_part, r_rpart, r_split, r_join, exists_eq']
    have hko := ask_ok hr2
    have hkl : (askL (rs.take j)).length ≤ 12 := by
      unfold askL
      rw [List.length_map]
      exact Nat.le_trans (List.length_filter_le _ _) hl2
    generalize asL ((ddsL 0 rs).take n) = A at h2
    generalize askL (rs.take j) = B at h2 hko hkl
    have hx : ((B.length : Int) - A.length = 0 ∨ (B.length : Int) - A.length = 1) ∧ B.take A.length = A := by
      rcases h2 with rfl | ⟨p, rfl⟩
      · exact ⟨.inl (by omega), List.take_length⟩
      · exact ⟨.inr (by rw [List.length_append, List.length_singleton]; omega), List.take_left⟩
    have ec2 : cutL (B.map fun p => PyData.tuple [.int (p.1 : Nat), adD p.2]) none (some ((A.map fun p => PyData.tuple [.int (p.1 : Nat), adD p.2]).length : Int)) = A.map fun p => PyData.tuple [.int (p.1 : Nat), adD p.2] := by
      rw [cutL_to, List.length_map, ← List.map_take, hx.2]
    have rA : reprOk (.list (A.map fun p => PyData.tuple [.int (p.1 : Nat), adD p.2])) := by
      rw [← hx.2]
      exact (ask_nice (m := 12) (by rw [List.length_take]; omega) fun p hp => hko p (List.mem_of_mem_take hp)).list.repr (by omega) (by omega)
    refine ⟨line_le (by omega), .inl ⟨rfl, rfl⟩, ?_⟩
    rw [if_pos (by simp only [List.any_cons, List.any_nil, eqv_int]; rcases hx.1 with e | e <;> rw [e] <;> rfl)]
    refine ⟨_, rfl, _, rfl, ?_⟩
    rw [ec2]
    refine ⟨rA, _, rfl, rA, ?_⟩
    rw [decide_eq_true rfl]
    exact hk
end K47

namespace K47
open PySem L2 PyProof.Rows FR
theorem dd_nice {d : Dd} (h : DdOk d) : Nice 2 30015 (ddD d) := by
  cases d with
  | w l => exact (NiceA.cons ((str_nice (l := [119, 114, 105, 116, 101]) (n := 1000) (by decide) (by decide)).mono (n' := 1) (by omega) (Nat.le_refl _)) (.cons ((str_nice (n := 1000) h.1 fun c hc => by have := h.2 c hc; omega).mono (by omega) (Nat.le_refl _)) .nil)).tuple.mono (by omega) (by omega)
  | a t p =>
    have h1 := h.1
    exact (NiceA.cons ((str_nice (l := [97, 115, 107]) (n := 1000) (by decide) (by decide)).mono (n' := 1) (by omega) (Nat.le_refl _)) (.cons ((Nice.nat (i := t) (by omega)).mono (by omega) (by omega)) (.cons ((ad_nice h.2).mono (Nat.le_refl _) (by omega)) .nil))).tuple
theorem dds_nice {ds : List Dd} (hl : ds.length ≤ 20) (h : ∀ d ∈ ds, DdOk d) : Nice 3 600343 (ddsD ds) := (NiceA.map hl fun d hd => dd_nice (h d hd)).tuple
theorem wr_le {ds : List Dd} (h : ∀ d ∈ ds, DdOk d) : (wrL ds).flatten.length ≤ 1000 * ds.length := by
  have h1 : (wrL ds).length ≤ ds.length := List.length_filterMap_le _ _
  have h2 := sum_le (f := fun z : TX => z.length) (b := 1000) (l := wrL ds) fun x hx => wr_ok h x hx
  rw [List.length_flatten]
  have : (wrL ds).length * 1000 ≤ ds.length * 1000 := Nat.mul_le_mul_right _ h1
  have e : (List.map (fun z : TX => z.length) (wrL ds)).sum = (List.map List.length (wrL ds)).sum := rfl
  omega
theorem wr_sg {ds : List Dd} (h : ∀ d ∈ ds, DdOk d) : ∀ l ∈ wrL ds, ∀ c ∈ l, c < 1000000 := by
  intro l hl c hc
  obtain ⟨d, hd, e⟩ := List.mem_filterMap.mp hl
  cases d with
  | w m => cases e; have := (h _ hd).2 c hc; omega
  | a t p => cases e
theorem as_ok {ds : List Dd} (h : ∀ d ∈ ds, DdOk d) : ∀ p ∈ asL ds, p.1 ≤ 999999999999 ∧ AdOk p.2 := by
  intro p hp
  obtain ⟨d, hd, e⟩ := List.mem_filterMap.mp hp
  cases d with
  | w m => cases e
  | a t q => cases e; exact h _ hd
theorem aft_ok {ds : List Dd} (h : ∀ d ∈ ds, DdOk d) (n : Nat) : (aftL ds n).length ≤ 1000 ∧ ∀ c ∈ aftL ds n, c < 1000000 := by
  unfold aftL
  cases e : ds[n]? with
  | none => simp
  | some d =>
    have hd := h d (List.mem_of_getElem? e)
    cases d with
    | w l => exact ⟨hd.1, fun c hc => by have := hd.2 c hc; omega⟩
    | a t p => simp
theorem left_nice {ds : List Dd} (n t : Nat) (hl : ds.length ≤ 30) (h : ∀ d ∈ ds, DdOk d) : Nice 4 620011 (leftD ds n t) := by
  have hl2 : (ds.take n).length ≤ 30 := by rw [List.length_take]; omega
  have h2 : ∀ d ∈ ds.take n, DdOk d := fun d hd => h d (List.mem_of_mem_take hd)
  have h3 := wr_le h2
  have h4 := aft_ok h n
  have hA : (asL (ds.take n)).length ≤ 30 := Nat.le_trans (List.length_filterMap_le _ _) hl2
  refine (NiceA.cons (n := 3) (w := 310002) ((str_nice (n := 31000) ?_ ?_).mono (by omega) (by omega)) (.cons ((ask_nice hA (as_ok h2)).tuple.mono (by omega) (by omega)) .nil)).tuple
  · rw [List.length_append, List.length_take]; omega
  · intro c hc
    rcases List.mem_append.mp hc with z | z
    · obtain ⟨l, hl, hc⟩ := List.mem_flatten.mp z
      exact wr_sg h2 l hl c hc
    · exact h4.2 c (List.mem_of_mem_take z)
theorem dds_long : ∀ (rs : List Rw) (k : Nat) (l : TX), Dd.w l ∈ ddsL k rs → 2 ≤ l.length
  | [], _, _, h => nomatch h
  | r :: rs, k, l, h => by
    rcases List.mem_append.mp h with z | z
    · rcases List.mem_cons.mp z with z | z
      · injection z with z
        rw [z]
        unfold jlL
        simp only [List.length_append, List.length_cons, List.length_nil]
        omega
      · split at z
        · cases List.mem_singleton.mp z
        · cases z
    · exact dds_long rs (k + 1) l z
theorem aft_w {ds : List Dd} {n : Nat} {l : TX} (h : ds[n]? = some (.w l)) : aftL ds n = l := by unfold aftL; rw [h]
def WRt (as : List Ad) (rs : List Rw) (_ : Nat) (δ : List Sl) : Prop := ∃ s4 s5 s6 s7, δ = [.d wellD, .d (spD as), .d (rsD rs), .d (.list ((ddsL 0 rs).map ddD)), s4, s5, s6, s7, .no]
theorem left_repr {ds : List Dd} (n t : Nat) (hl : ds.length ≤ 30) (h : ∀ d ∈ ds, DdOk d) : reprOk (leftD ds n t) := (left_nice n t hl h).repr (by omega) (by omega)
theorem left_repr2 {ds : List Dd} (n t : Nat) (hl : ds.length ≤ 30) (h : ∀ d ∈ ds, DdOk d) : reprOk (.list [leftD ds n t, leftD ds n t]) := (NiceA.cons (left_nice n t hl h) (.cons (left_nice n t hl h) .nil)).list.repr (by omega) (by omega)
theorem right_tail {er : Er} {E : Ed} {as : List Ad} {rs : List Rw} {n t : Nat} {s4 s7 : Sl} (hr : ∀ r ∈ rs, RwOk r) (hl : rs.length ≤ 8) (hn : n ≤ (ddsL 0 rs).length) (ht : t = 0 ∨ t + 1 ≤ (aftL (ddsL 0 rs) n).length)
    (hk : ∀ s7, E.nx [.d wellD, .d (spD as), .d (rsD rs), .d (.list ((ddsL 0 rs).map ddD)), s4, .d (.int (n : Nat)), .d (.int (t : Nat)), s7, .no]) :
    wb G er cb__law_right_4b2 E [.d wellD, .d (spD as), .d (rsD rs), .d (.list ((ddsL 0 rs).map ddD)), s4, .d (.int (n : Nat)), .d (.int (t : Nat)), s7, .no] := by
  have hdl := ddsL_len rs 0
  have hdo := ddsL_ok rs 0 (by omega) hr
  have hod : okDs (ddsL 0 rs) := ⟨by omega, hdo⟩
  simp only [cb__law_right_4b2, wb, ws, rd, rq, rg, rl, rp, ri, rn, tgt, setAll, wipeL, Lit.d, Src.dat, List.set_cons_zero, List.set_cons_succ, List.getElem?_cons_zero, List.getElem?_cons_succ, List.map_cons, List.map_nil, List.cons_append, List.nil_append, List.append_nil, List.length_cons, List.length_nil, if_true, Bool.false_eq_true, if_false, Option.some.injEq, PyData.int.injEq, PyData.list.injEq, PyData.str.injEq, PyData.bool.injEq, PyData.tuple.injEq, Sl.m.injEq, Sl.l.injEq, Sl.d.injEq, exists_eq_left', exists_eq_left, true_and, r_sS, r_sl, r_sD, r_add, r_adds, r_addl, r_addt, r_sub, r_mul, r_mull, r_mod, r_fdiv, r_pow, r_lt, r_le, r_gt, r_ge, r_eq, r_eqs, r_eqb, r_ne, r_nes, r_neb, r_isN, r_notN, r_tb, r_ti, r_tl, r_tt, r_tn, r_lenl, r_lent, r_lens, r_lenc, r_int, r_intb, r_abs, r_max, r_min, r_tuple, r_tuplet, r_list, r_listt, r_repr, r_str, r_strs, r_all, r_any, r_idxl, r_idxt, r_idxs, r_idxc, r_slcl, r_slct, r_slcs, r_slcc, r_iteml, r_itemt, r_items, r_call, r_in_s, r_key, r_keys, r_count, r_str_ex, r_in_l, r_in_t, Nat.zero_add, Nat.reduceAdd, List.getD_cons_zero, List.getD_cons_succ, r_count, and_true, exists_const, List.length_map, fn_is_name, sh_is_name, fn_is_path, sh_is_path, fn_is_whole, sh_is_whole, fn_is_tuple_up_to, sh_is_tuple_up_to, fn_text_of, sh_text_of, fn_is_numeral, sh_is_numeral, fn_seal_in, sh_seal_in, fn__law_well, sh__law_well, fn__law_take, sh__law_take, fn__law_line, sh__law_line, fn__law_seal, sh__law_seal, fn__law_left, sh__law_left, fn_is_between, sh_is_between, fn_is_short_path, sh_is_short_path, fn_words_behind, sh_words_behind, fn__law_one, sh__law_one, fn__law_sealed, sh__law_sealed, fn_is_address, sh_is_address, fn_check_number, sh_check_number, fn_is_moment, sh_is_moment, fn_line_of, sh_line_of, fn__law_name, sh__law_name, fn__law_path, sh__law_path, fn__law_answer, sh__law_answer, fn__law_deeds, sh__law_deeds, fn_address_in, sh_address_in, fn_are_links, sh_are_links, fn_journal_line, sh_journal_line, fn_is_deed, sh_is_deed, fn__law_spots, sh__law_spots, fn__law_loose_rows, sh__law_loose_rows, fn_is_some_answer, sh_is_some_answer, fn_behind, sh_behind, sh_behind_1, sh_behind_2, sh_behind_3, fn_answer_of, sh_answer_of, fn_is_some_event, sh_is_some_event, fn_event_of, sh_event_of, fn_is_some_row, sh_is_some_row, fn_check_log, sh_check_log, fn_row_in, sh_row_in, fn_row_at, sh_row_at, fn_deeds_of, sh_deeds_of, sh_deeds_of_1, fn_read_journal, sh_read_journal, fn__law_is_kept, sh__law_is_kept, fn__law_right, sh__law_right, gl_ASK, gl_LETTERS, gl_SIGNS, gl_MOST_LETTERS, gl_MOST_SIGNS, gl_MOST_MOMENT, gl_MOST_MARK, gl_MOST_LINKS, gl_MOST_DIGITS, gl_DIGITS, gl_SEALS, ra, setSl, frzS, isiD, hdC, tlC, forC, rf, r_fmts, r_fmti, r_part, r_rpart, r_split, r_join, exists_eq']
  refine ⟨ddsL 0 rs, n, t, rfl, hod, hn, ht, ?_⟩
  simp only [cb__law_right_4b3, cb__law_right_4b3b0, wb, ws, rd, rq, rg, rl, rp, ri, rn, tgt, setAll, wipeL, Lit.d, Src.dat, List.set_cons_zero, List.set_cons_succ, List.getElem?_cons_zero, List.getElem?_cons_succ, List.map_cons, List.map_nil, List.cons_append, List.nil_append, List.append_nil, List.length_cons, List.length_nil, if_true, Bool.false_eq_true, if_false, Option.some.injEq, PyData.int.injEq, PyData.list.injEq, PyData.str.injEq, PyData.bool.injEq, PyData.tuple.injEq, Sl.m.injEq, Sl.l.injEq, Sl.d.injEq, exists_eq_left', exists_eq_left, true_and, r_sS, r_sl, r_sD, r_add, r_adds, r_addl, r_addt, r_sub, r_mul, r_mull, r_mod, r_fdiv, r_pow, r_lt, r_le, r_gt, r_ge, r_eq, r_eqs, r_eqb, r_ne, r_nes, r_neb, r_isN, r_notN, r_tb, r_ti, r_tl, r_tt, r_tn, r_lenl, r_lent, r_lens, r_lenc, r_int, r_intb, r_abs, r_max, r_min, r_tuple, r_tuplet, r_list, r_listt, r_repr, r_str, r_strs, r_all, r_any, r_idxl, r_idxt, r_idxs, r_idxc, r_slcl, r_slct, r_slcs, r_slcc, r_iteml, r_itemt, r_items, r_call, r_in_s, r_key, r_keys, r_count, r_str_ex, r_in_l, r_in_t, Nat.zero_add, Nat.reduceAdd, List.getD_cons_zero, List.getD_cons_succ, r_count, and_true, exists_const, List.length_map, fn_is_name, sh_is_name, fn_is_path, sh_is_path, fn_is_whole, sh_is_whole, fn_is_tuple_up_to, sh_is_tuple_up_to, fn_text_of, sh_text_of, fn_is_numeral, sh_is_numeral, fn_seal_in, sh_seal_in, fn__law_well, sh__law_well, fn__law_take, sh__law_take, fn__law_line, sh__law_line, fn__law_seal, sh__law_seal, fn__law_left, sh__law_left, fn_is_between, sh_is_between, fn_is_short_path, sh_is_short_path, fn_words_behind, sh_words_behind, fn__law_one, sh__law_one, fn__law_sealed, sh__law_sealed, fn_is_address, sh_is_address, fn_check_number, sh_check_number, fn_is_moment, sh_is_moment, fn_line_of, sh_line_of, fn__law_name, sh__law_name, fn__law_path, sh__law_path, fn__law_answer, sh__law_answer, fn__law_deeds, sh__law_deeds, fn_address_in, sh_address_in, fn_are_links, sh_are_links, fn_journal_line, sh_journal_line, fn_is_deed, sh_is_deed, fn__law_spots, sh__law_spots, fn__law_loose_rows, sh__law_loose_rows, fn_is_some_answer, sh_is_some_answer, fn_behind, sh_behind, sh_behind_1, sh_behind_2, sh_behind_3, fn_answer_of, sh_answer_of, fn_is_some_event, sh_is_some_event, fn_event_of, sh_event_of, fn_is_some_row, sh_is_some_row, fn_check_log, sh_check_log, fn_row_in, sh_row_in, fn_row_at, sh_row_at, fn_deeds_of, sh_deeds_of, sh_deeds_of_1, fn_read_journal, sh_read_journal, fn__law_is_kept, sh__law_is_kept, fn__law_right, sh__law_right, gl_ASK, gl_LETTERS, gl_SIGNS, gl_MOST_LETTERS, gl_MOST_SIGNS, gl_MOST_MOMENT, gl_MOST_MARK, gl_MOST_LINKS, gl_MOST_DIGITS, gl_DIGITS, gl_SEALS, ra, setSl, frzS, isiD, hdC, tlC, forC, rf, r_fmts, r_fmti, r_part, r_rpart, r_split, r_join, exists_eq']
  have r1 := left_repr n t (by omega) hdo
  refine ⟨r1, ddsL 0 rs, n, t, rfl, hod, hn, ht, r1, ?_⟩
  rw [decide_eq_true rfl, Bool.not_true, if_neg Bool.false_ne_true]
  refine ⟨rs, n, t, rfl, hr, by omega, ht, true, rfl, ?_⟩
  rw [Bool.not_true, if_neg Bool.false_ne_true]
  simp only [cb__law_right_4b4, cb__law_right_4b4b0, wb, ws, rd, rq, rg, rl, rp, ri, rn, tgt, setAll, wipeL, Lit.d, Src.dat, List.set_cons_zero, List.set_cons_succ, List.getElem?_cons_zero, List.getElem?_cons_succ, List.map_cons, List.map_nil, List.cons_append, List.nil_append, List.append_nil, List.length_cons, List.length_nil, if_true, Bool.false_eq_true, if_false, Option.some.injEq, PyData.int.injEq, PyData.list.injEq, PyData.str.injEq, PyData.bool.injEq, PyData.tuple.injEq, Sl.m.injEq, Sl.l.injEq, Sl.d.injEq, exists_eq_left', exists_eq_left, true_and, r_sS, r_sl, r_sD, r_add, r_adds, r_addl, r_addt, r_sub, r_mul, r_mull, r_mod, r_fdiv, r_pow, r_lt, r_le, r_gt, r_ge, r_eq, r_eqs, r_eqb, r_ne, r_nes, r_neb, r_isN, r_notN, r_tb, r_ti, r_tl, r_tt, r_tn, r_lenl, r_lent, r_lens, r_lenc, r_int, r_intb, r_abs, r_max, r_min, r_tuple, r_tuplet, r_list, r_listt, r_repr, r_str, r_strs, r_all, r_any, r_idxl, r_idxt, r_idxs, r_idxc, r_slcl, r_slct, r_slcs, r_slcc, r_iteml, r_itemt, r_items, r_call, r_in_s, r_key, r_keys, r_count, r_str_ex, r_in_l, r_in_t, Nat.zero_add, Nat.reduceAdd, List.getD_cons_zero, List.getD_cons_succ, r_count, and_true, exists_const, List.length_map, fn_is_name, sh_is_name, fn_is_path, sh_is_path, fn_is_whole, sh_is_whole, fn_is_tuple_up_to, sh_is_tuple_up_to, fn_text_of, sh_text_of, fn_is_numeral, sh_is_numeral, fn_seal_in, sh_seal_in, fn__law_well, sh__law_well, fn__law_take, sh__law_take, fn__law_line, sh__law_line, fn__law_seal, sh__law_seal, fn__law_left, sh__law_left, fn_is_between, sh_is_between, fn_is_short_path, sh_is_short_path, fn_words_behind, sh_words_behind, fn__law_one, sh__law_one, fn__law_sealed, sh__law_sealed, fn_is_address, sh_is_address, fn_check_number, sh_check_number, fn_is_moment, sh_is_moment, fn_line_of, sh_line_of, fn__law_name, sh__law_name, fn__law_path, sh__law_path, fn__law_answer, sh__law_answer, fn__law_deeds, sh__law_deeds, fn_address_in, sh_address_in, fn_are_links, sh_are_links, fn_journal_line, sh_journal_line, fn_is_deed, sh_is_deed, fn__law_spots, sh__law_spots, fn__law_loose_rows, sh__law_loose_rows, fn_is_some_answer, sh_is_some_answer, fn_behind, sh_behind, sh_behind_1, sh_behind_2, sh_behind_3, fn_answer_of, sh_answer_of, fn_is_some_event, sh_is_some_event, fn_event_of, sh_event_of, fn_is_some_row, sh_is_some_row, fn_check_log, sh_check_log, fn_row_in, sh_row_in, fn_row_at, sh_row_at, fn_deeds_of, sh_deeds_of, sh_deeds_of_1, fn_read_journal, sh_read_journal, fn__law_is_kept, sh__law_is_kept, fn__law_right, sh__law_right, gl_ASK, gl_LETTERS, gl_SIGNS, gl_MOST_LETTERS, gl_MOST_SIGNS, gl_MOST_MOMENT, gl_MOST_MARK, gl_MOST_LINKS, gl_MOST_DIGITS, gl_DIGITS, gl_SEALS, ra, setSl, frzS, isiD, hdC, tlC, forC, rf, r_fmts, r_fmti, r_part, r_rpart, r_split, r_join, exists_eq']
  have r2 := left_repr2 n 0 (by omega) hdo
  refine ⟨ddsL 0 rs, n, 0, rfl, hod, hn, .inl rfl, ddsL 0 rs, n, 0, rfl, hod, hn, .inl rfl, line_le (by omega), r2, ddsL 0 rs, n, 0, rfl, hod, hn, .inl rfl, line_le (by omega), ?_⟩
  rw [show (List.replicate (Int.toNat 2) [leftD (ddsL 0 rs) n 0]).flatten = [leftD (ddsL 0 rs) n 0, leftD (ddsL 0 rs) n 0] from rfl]
  refine ⟨by decide, by decide, line_le (by decide), r2, ?_⟩
  rw [decide_eq_true rfl, Bool.not_true, if_neg Bool.false_ne_true]
  exact hk _
theorem law__law_right : ∀ ds kd er, ds.length = 1 → sp__law_right ds kd er → wb G er cb__law_right (EdK kd) (startD N__law_right ds) := by
  rintro ds kd er - ⟨rfl, hk⟩
  show wb G er cb__law_right (EdK kd) [.d wellD, .no, .no, .no, .no, .no, .no, .no, .no]
  simp only [cb__law_right, cb__law_right_1, cb__law_right_2, cb__law_right_3, cb__law_right_3b0, wb, ws, rd, rq, rg, rl, rp, ri, rn, tgt, setAll, wipeL, Lit.d, Src.dat, List.set_cons_zero, List.set_cons_succ, List.getElem?_cons_zero, List.getElem?_cons_succ, List.map_cons, List.map_nil, List.cons_append, List.nil_append, List.append_nil, List.length_cons, List.length_nil, if_true, Bool.false_eq_true, if_false, Option.some.injEq, PyData.int.injEq, PyData.list.injEq, PyData.str.injEq, PyData.bool.injEq, PyData.tuple.injEq, Sl.m.injEq, Sl.l.injEq, Sl.d.injEq, exists_eq_left', exists_eq_left, true_and, r_sS, r_sl, r_sD, r_add, r_adds, r_addl, r_addt, r_sub, r_mul, r_mull, r_mod, r_fdiv, r_pow, r_lt, r_le, r_gt, r_ge, r_eq, r_eqs, r_eqb, r_ne, r_nes, r_neb, r_isN, r_notN, r_tb, r_ti, r_tl, r_tt, r_tn, r_lenl, r_lent, r_lens, r_lenc, r_int, r_intb, r_abs, r_max, r_min, r_tuple, r_tuplet, r_list, r_listt, r_repr, r_str, r_strs, r_all, r_any, r_idxl, r_idxt, r_idxs, r_idxc, r_slcl, r_slct, r_slcs, r_slcc, r_iteml, r_itemt, r_items, r_call, r_in_s, r_key, r_keys, r_count, r_str_ex, r_in_l, r_in_t, Nat.zero_add, Nat.reduceAdd, List.getD_cons_zero, List.getD_cons_succ, r_count, and_true, exists_const, List.length_map, fn_is_name, sh_is_name, fn_is_path, sh_is_path, fn_is_whole, sh_is_whole, fn_is_tuple_up_to, sh_is_tuple_up_to, fn_text_of, sh_text_of, fn_is_numeral, sh_is_numeral, fn_seal_in, sh_seal_in, fn__law_well, sh__law_well, fn__law_take, sh__law_take, fn__law_line, sh__law_line, fn__law_seal, sh__law_seal, fn__law_left, sh__law_left, fn_is_between, sh_is_between, fn_is_short_path, sh_is_short_path, fn_words_behind, sh_words_behind, fn__law_one, sh__law_one, fn__law_sealed, sh__law_sealed, fn_is_address, sh_is_address, fn_check_number, sh_check_number, fn_is_moment, sh_is_moment, fn_line_of, sh_line_of, fn__law_name, sh__law_name, fn__law_path, sh__law_path, fn__law_answer, sh__law_answer, fn__law_deeds, sh__law_deeds, fn_address_in, sh_address_in, fn_are_links, sh_are_links, fn_journal_line, sh_journal_line, fn_is_deed, sh_is_deed, fn__law_spots, sh__law_spots, fn__law_loose_rows, sh__law_loose_rows, fn_is_some_answer, sh_is_some_answer, fn_behind, sh_behind, sh_behind_1, sh_behind_2, sh_behind_3, fn_answer_of, sh_answer_of, fn_is_some_event, sh_is_some_event, fn_event_of, sh_event_of, fn_is_some_row, sh_is_some_row, fn_check_log, sh_check_log, fn_row_in, sh_row_in, fn_row_at, sh_row_at, fn_deeds_of, sh_deeds_of, sh_deeds_of_1, fn_read_journal, sh_read_journal, fn__law_is_kept, sh__law_is_kept, fn__law_right, sh__law_right, gl_ASK, gl_LETTERS, gl_SIGNS, gl_MOST_LETTERS, gl_MOST_SIGNS, gl_MOST_MOMENT, gl_MOST_MARK, gl_MOST_LINKS, gl_MOST_DIGITS, gl_DIGITS, gl_SEALS, ra, setSl, frzS, isiD, hdC, tlC, forC, rf, r_fmts, r_fmti, r_part, r_rpart, r_split, r_join, exists_eq']
  refine ⟨rfl, fun n1 h1 => ⟨rfl, fun n2 h2 => ⟨line_le (by omega), [n1, n2], rfl, by simp, fun l hl => ?_, fun as ha => ?_⟩⟩⟩
  · rcases List.mem_cons.mp hl with z | z
    · rw [z]; exact h1
    · rw [List.mem_singleton.mp z]; exact h2
  refine ⟨line_le (by omega), .inl ⟨_, .inr rfl, by simp, by simp, fun x hx => ?_⟩⟩
  obtain ⟨N, rfl, hN⟩ : ∃ n : Nat, x = .int n ∧ n ≤ 8 := by
    simp only [List.mem_cons, List.not_mem_nil, or_false] at hx
    rcases hx with e | e | e | e | e
    · exact ⟨0, e, by omega⟩
    · exact ⟨1, e, by omega⟩
    · exact ⟨2, e, by omega⟩
    · exact ⟨5, e, by omega⟩
    · exact ⟨8, e, by omega⟩
  refine ⟨as, N, rfl, ha, by omega, fun rs hrl hr => ?_⟩
  have hdl := ddsL_len rs 0
  have hdo := ddsL_ok rs 0 (by omega) hr
  have hod : okDs (ddsL 0 rs) := ⟨by omega, hdo⟩
  have r1 : reprOk (.list [ddsD (ddsL 0 rs), ddsD (ddsL 0 rs)]) := (NiceA.cons (dds_nice (by omega) hdo) (.cons (dds_nice (by omega) hdo) .nil)).list.repr (by omega) (by omega)
  refine ⟨rs, rfl, hr, by omega, rs, rfl, hr, by omega, rs, rfl, hr, by omega, line_le (by omega), r1, ?_⟩
  simp only [wb, ws, rd, rq, rg, rl, rp, ri, rn, tgt, setAll, wipeL, Lit.d, Src.dat, List.set_cons_zero, List.set_cons_succ, List.getElem?_cons_zero, List.getElem?_cons_succ, List.map_cons, List.map_nil, List.cons_append, List.nil_append, List.append_nil, List.length_cons, List.length_nil, if_true, Bool.false_eq_true, if_false, Option.some.injEq, PyData.int.injEq, PyData.list.injEq, PyData.str.injEq, PyData.bool.injEq, PyData.tuple.injEq, Sl.m.injEq, Sl.l.injEq, Sl.d.injEq, exists_eq_left', exists_eq_left, true_and, r_sS, r_sl, r_sD, r_add, r_adds, r_addl, r_addt, r_sub, r_mul, r_mull, r_mod, r_fdiv, r_pow, r_lt, r_le, r_gt, r_ge, r_eq, r_eqs, r_eqb, r_ne, r_nes, r_neb, r_isN, r_notN, r_tb, r_ti, r_tl, r_tt, r_tn, r_lenl, r_lent, r_lens, r_lenc, r_int, r_intb, r_abs, r_max, r_min, r_tuple, r_tuplet, r_list, r_listt, r_repr, r_str, r_strs, r_all, r_any, r_idxl, r_idxt, r_idxs, r_idxc, r_slcl, r_slct, r_slcs, r_slcc, r_iteml, r_itemt, r_items, r_call, r_in_s, r_key, r_keys, r_count, r_str_ex, r_in_l, r_in_t, Nat.zero_add, Nat.reduceAdd, List.getD_cons_zero, List.getD_cons_succ, r_count, and_true, exists_const, List.length_map, fn_is_name, sh_is_name, fn_is_path, sh_is_path, fn_is_whole, sh_is_whole, fn_is_tuple_up_to, sh_is_tuple_up_to, fn_text_of, sh_text_of, fn_is_numeral, sh_is_numeral, fn_seal_in, sh_seal_in, fn__law_well, sh__law_well, fn__law_take, sh__law_take, fn__law_line, sh__law_line, fn__law_seal, sh__law_seal, fn__law_left, sh__law_left, fn_is_between, sh_is_between, fn_is_short_path, sh_is_short_path, fn_words_behind, sh_words_behind, fn__law_one, sh__law_one, fn__law_sealed, sh__law_sealed, fn_is_address, sh_is_address, fn_check_number, sh_check_number, fn_is_moment, sh_is_moment, fn_line_of, sh_line_of, fn__law_name, sh__law_name, fn__law_path, sh__law_path, fn__law_answer, sh__law_answer, fn__law_deeds, sh__law_deeds, fn_address_in, sh_address_in, fn_are_links, sh_are_links, fn_journal_line, sh_journal_line, fn_is_deed, sh_is_deed, fn__law_spots, sh__law_spots, fn__law_loose_rows, sh__law_loose_rows, fn_is_some_answer, sh_is_some_answer, fn_behind, sh_behind, sh_behind_1, sh_behind_2, sh_behind_3, fn_answer_of, sh_answer_of, fn_is_some_event, sh_is_some_event, fn_event_of, sh_event_of, fn_is_some_row, sh_is_some_row, fn_check_log, sh_check_log, fn_row_in, sh_row_in, fn_row_at, sh_row_at, fn_deeds_of, sh_deeds_of, sh_deeds_of_1, fn_read_journal, sh_read_journal, fn__law_is_kept, sh__law_is_kept, fn__law_right, sh__law_right, gl_ASK, gl_LETTERS, gl_SIGNS, gl_MOST_LETTERS, gl_MOST_SIGNS, gl_MOST_MOMENT, gl_MOST_MARK, gl_MOST_LINKS, gl_MOST_DIGITS, gl_DIGITS, gl_SEALS, ra, setSl, frzS, isiD, hdC, tlC, forC, rf, r_fmts, r_fmti, r_part, r_rpart, r_split, r_join, exists_eq']
  refine ⟨line_le (by omega), r1, ?_⟩
  rw [if_neg (by simp)]
  simp only [cb__law_right_4, wb, ws, rd, rq, rg, rl, rp, ri, rn, tgt, setAll, wipeL, Lit.d, Src.dat, List.set_cons_zero, List.set_cons_succ, List.getElem?_cons_zero, List.getElem?_cons_succ, List.map_cons, List.map_nil, List.cons_append, List.nil_append, List.append_nil, List.length_cons, List.length_nil, if_true, Bool.false_eq_true, if_false, Option.some.injEq, PyData.int.injEq, PyData.list.injEq, PyData.str.injEq, PyData.bool.injEq, PyData.tuple.injEq, Sl.m.injEq, Sl.l.injEq, Sl.d.injEq, exists_eq_left', exists_eq_left, true_and, r_sS, r_sl, r_sD, r_add, r_adds, r_addl, r_addt, r_sub, r_mul, r_mull, r_mod, r_fdiv, r_pow, r_lt, r_le, r_gt, r_ge, r_eq, r_eqs, r_eqb, r_ne, r_nes, r_neb, r_isN, r_notN, r_tb, r_ti, r_tl, r_tt, r_tn, r_lenl, r_lent, r_lens, r_lenc, r_int, r_intb, r_abs, r_max, r_min, r_tuple, r_tuplet, r_list, r_listt, r_repr, r_str, r_strs, r_all, r_any, r_idxl, r_idxt, r_idxs, r_idxc, r_slcl, r_slct, r_slcs, r_slcc, r_iteml, r_itemt, r_items, r_call, r_in_s, r_key, r_keys, r_count, r_str_ex, r_in_l, r_in_t, Nat.zero_add, Nat.reduceAdd, List.getD_cons_zero, List.getD_cons_succ, r_count, and_true, exists_const, List.length_map, fn_is_name, sh_is_name, fn_is_path, sh_is_path, fn_is_whole, sh_is_whole, fn_is_tuple_up_to, sh_is_tuple_up_to, fn_text_of, sh_text_of, fn_is_numeral, sh_is_numeral, fn_seal_in, sh_seal_in, fn__law_well, sh__law_well, fn__law_take, sh__law_take, fn__law_line, sh__law_line, fn__law_seal, sh__law_seal, fn__law_left, sh__law_left, fn_is_between, sh_is_between, fn_is_short_path, sh_is_short_path, fn_words_behind, sh_words_behind, fn__law_one, sh__law_one, fn__law_sealed, sh__law_sealed, fn_is_address, sh_is_address, fn_check_number, sh_check_number, fn_is_moment, sh_is_moment, fn_line_of, sh_line_of, fn__law_name, sh__law_name, fn__law_path, sh__law_path, fn__law_answer, sh__law_answer, fn__law_deeds, sh__law_deeds, fn_address_in, sh_address_in, fn_are_links, sh_are_links, fn_journal_line, sh_journal_line, fn_is_deed, sh_is_deed, fn__law_spots, sh__law_spots, fn__law_loose_rows, sh__law_loose_rows, fn_is_some_answer, sh_is_some_answer, fn_behind, sh_behind, sh_behind_1, sh_behind_2, sh_behind_3, fn_answer_of, sh_answer_of, fn_is_some_event, sh_is_some_event, fn_event_of, sh_event_of, fn_is_some_row, sh_is_some_row, fn_check_log, sh_check_log, fn_row_in, sh_row_in, fn_row_at, sh_row_at, fn_deeds_of, sh_deeds_of, sh_deeds_of_1, fn_read_journal, sh_read_journal, fn__law_is_kept, sh__law_is_kept, fn__law_right, sh__law_right, gl_ASK, gl_LETTERS, gl_SIGNS, gl_MOST_LETTERS, gl_MOST_SIGNS, gl_MOST_MOMENT, gl_MOST_MARK, gl_MOST_LINKS, gl_MOST_DIGITS, gl_DIGITS, gl_SEALS, ra, setSl, frzS, isiD, hdC, tlC, forC, rf, r_fmts, r_fmti, r_part, r_rpart, r_split, r_join, exists_eq']
  refine ⟨by decide, WRt as rs, ⟨_, _, _, _, rfl⟩, ?_, ?_⟩
  · rintro i d δ hd ⟨s4, s5, s6, s7, rfl⟩
    simp only [cb__law_right_4b0, wb, ws, rd, rq, rg, rl, rp, ri, rn, tgt, setAll, wipeL, Lit.d, Src.dat, List.set_cons_zero, List.set_cons_succ, List.getElem?_cons_zero, List.getElem?_cons_succ, List.map_cons, List.map_nil, List.cons_append, List.nil_append, List.append_nil, List.length_cons, List.length_nil, if_true, Bool.false_eq_true, if_false, Option.some.injEq, PyData.int.injEq, PyData.list.injEq, PyData.str.injEq, PyData.bool.injEq, PyData.tuple.injEq, Sl.m.injEq, Sl.l.injEq, Sl.d.injEq, exists_eq_left', exists_eq_left, true_and, r_sS, r_sl, r_sD, r_add, r_adds, r_addl, r_addt, r_sub, r_mul, r_mull, r_mod, r_fdiv, r_pow, r_lt, r_le, r_gt, r_ge, r_eq, r_eqs, r_eqb, r_ne, r_nes, r_neb, r_isN, r_notN, r_tb, r_ti, r_tl, r_tt, r_tn, r_lenl, r_lent, r_lens, r_lenc, r_int, r_intb, r_abs, r_max, r_min, r_tuple, r_tuplet, r_list, r_listt, r_repr, r_str, r_strs, r_all, r_any, r_idxl, r_idxt, r_idxs, r_idxc, r_slcl, r_slct, r_slcs, r_slcc, r_iteml, r_itemt, r_items, r_call, r_in_s, r_key, r_keys, r_count, r_str_ex, r_in_l, r_in_t, Nat.zero_add, Nat.reduceAdd, List.getD_cons_zero, List.getD_cons_succ, r_count, and_true, exists_const, List.length_map, fn_is_name, sh_is_name, fn_is_path, sh_is_path, fn_is_whole, sh_is_whole, fn_is_tuple_up_to, sh_is_tuple_up_to, fn_text_of, sh_text_of, fn_is_numeral, sh_is_numeral, fn_seal_in, sh_seal_in, fn__law_well, sh__law_well, fn__law_take, sh__law_take, fn__law_line, sh__law_line, fn__law_seal, sh__law_seal, fn__law_left, sh__law_left, fn_is_between, sh_is_between, fn_is_short_path, sh_is_short_path, fn_words_behind, sh_words_behind, fn__law_one, sh__law_one, fn__law_sealed, sh__law_sealed, fn_is_address, sh_is_address, fn_check_number, sh_check_number, fn_is_moment, sh_is_moment, fn_line_of, sh_line_of, fn__law_name, sh__law_name, fn__law_path, sh__law_path, fn__law_answer, sh__law_answer, fn__law_deeds, sh__law_deeds, fn_address_in, sh_address_in, fn_are_links, sh_are_links, fn_journal_line, sh_journal_line, fn_is_deed, sh_is_deed, fn__law_spots, sh__law_spots, fn__law_loose_rows, sh__law_loose_rows, fn_is_some_answer, sh_is_some_answer, fn_behind, sh_behind, sh_behind_1, sh_behind_2, sh_behind_3, fn_answer_of, sh_answer_of, fn_is_some_event, sh_is_some_event, fn_event_of, sh_event_of, fn_is_some_row, sh_is_some_row, fn_check_log, sh_check_log, fn_row_in, sh_row_in, fn_row_at, sh_row_at, fn_deeds_of, sh_deeds_of, sh_deeds_of_1, fn_read_journal, sh_read_journal, fn__law_is_kept, sh__law_is_kept, fn__law_right, sh__law_right, gl_ASK, gl_LETTERS, gl_SIGNS, gl_MOST_LETTERS, gl_MOST_SIGNS, gl_MOST_MOMENT, gl_MOST_MARK, gl_MOST_LINKS, gl_MOST_DIGITS, gl_DIGITS, gl_SEALS, ra, setSl, frzS, isiD, hdC, tlC, forC, rf, r_fmts, r_fmti, r_part, r_rpart, r_split, r_join, exists_eq']
    refine ⟨(ddsL 0 rs).length + 1, rfl, by omega, fun n0 h0 h1 => ?_⟩
    obtain ⟨n, rfl⟩ : ∃ n : Nat, n0 = n := ⟨n0.toNat, by omega⟩
    refine ⟨_, _, rfl, ?_⟩
    have fin : ∀ s4 s7, ∃ a b c d, ([.d wellD, .d (spD as), .d (rsD rs), .d (.list ((ddsL 0 rs).map ddD)), s4, .d (.int (n : Nat)), .d (.int 0), s7, .no] : List Sl) = [.d wellD, .d (spD as), .d (rsD rs), .d (.list ((ddsL 0 rs).map ddD)), a, b, c, d, .no] := fun _ _ => ⟨_, _, _, _, rfl⟩
    simp only [cb__law_right_4b1, wb, ws, rd, rq, rg, rl, rp, ri, rn, tgt, setAll, wipeL, Lit.d, Src.dat, List.set_cons_zero, List.set_cons_succ, List.getElem?_cons_zero, List.getElem?_cons_succ, List.map_cons, List.map_nil, List.cons_append, List.nil_append, List.append_nil, List.length_cons, List.length_nil, if_true, Bool.false_eq_true, if_false, Option.some.injEq, PyData.int.injEq, PyData.list.injEq, PyData.str.injEq, PyData.bool.injEq, PyData.tuple.injEq, Sl.m.injEq, Sl.l.injEq, Sl.d.injEq, exists_eq_left', exists_eq_left, true_and, r_sS, r_sl, r_sD, r_add, r_adds, r_addl, r_addt, r_sub, r_mul, r_mull, r_mod, r_fdiv, r_pow, r_lt, r_le, r_gt, r_ge, r_eq, r_eqs, r_eqb, r_ne, r_nes, r_neb, r_isN, r_notN, r_tb, r_ti, r_tl, r_tt, r_tn, r_lenl, r_lent, r_lens, r_lenc, r_int, r_intb, r_abs, r_max, r_min, r_tuple, r_tuplet, r_list, r_listt, r_repr, r_str, r_strs, r_all, r_any, r_idxl, r_idxt, r_idxs, r_idxc, r_slcl, r_slct, r_slcs, r_slcc, r_iteml, r_itemt, r_items, r_call, r_in_s, r_key, r_keys, r_count, r_str_ex, r_in_l, r_in_t, Nat.zero_add, Nat.reduceAdd, List.getD_cons_zero, List.getD_cons_succ, r_count, and_true, exists_const, List.length_map, fn_is_name, sh_is_name, fn_is_path, sh_is_path, fn_is_whole, sh_is_whole, fn_is_tuple_up_to, sh_is_tuple_up_to, fn_text_of, sh_text_of, fn_is_numeral, sh_is_numeral, fn_seal_in, sh_seal_in, fn__law_well, sh__law_well, fn__law_take, sh__law_take, fn__law_line, sh__law_line, fn__law_seal, sh__law_seal, fn__law_left, sh__law_left, fn_is_between, sh_is_between, fn_is_short_path, sh_is_short_path, fn_words_behind, sh_words_behind, fn__law_one, sh__law_one, fn__law_sealed, sh__law_sealed, fn_is_address, sh_is_address, fn_check_number, sh_check_number, fn_is_moment, sh_is_moment, fn_line_of, sh_line_of, fn__law_name, sh__law_name, fn__law_path, sh__law_path, fn__law_answer, sh__law_answer, fn__law_deeds, sh__law_deeds, fn_address_in, sh_address_in, fn_are_links, sh_are_links, fn_journal_line, sh_journal_line, fn_is_deed, sh_is_deed, fn__law_spots, sh__law_spots, fn__law_loose_rows, sh__law_loose_rows, fn_is_some_answer, sh_is_some_answer, fn_behind, sh_behind, sh_behind_1, sh_behind_2, sh_behind_3, fn_answer_of, sh_answer_of, fn_is_some_event, sh_is_some_event, fn_event_of, sh_event_of, fn_is_some_row, sh_is_some_row, fn_check_log, sh_check_log, fn_row_in, sh_row_in, fn_row_at, sh_row_at, fn_deeds_of, sh_deeds_of, sh_deeds_of_1, fn_read_journal, sh_read_journal, fn__law_is_kept, sh__law_is_kept, fn__law_right, sh__law_right, gl_ASK, gl_LETTERS, gl_SIGNS, gl_MOST_LETTERS, gl_MOST_SIGNS, gl_MOST_MOMENT, gl_MOST_MARK, gl_MOST_LINKS, gl_MOST_DIGITS, gl_DIGITS, gl_SEALS, ra, setSl, frzS, isiD, hdC, tlC, forC, rf, r_fmts, r_fmti, r_part, r_rpart, r_split, r_join, exists_eq']
    by_cases h : (n : Int) < (ddsL 0 rs).length
    · rw [decide_eq_true h]
      rw [if_pos rfl]
      have hx : (ddsL 0 rs)[n]? = some (ddsL 0 rs)[n] := List.getElem?_eq_getElem (by omega)
      have hd0 := hdo (ddsL 0 rs)[n] (List.getElem_mem (by omega))
      generalize (ddsL 0 rs)[n] = x at hx hd0
      have hat : atI ((ddsL 0 rs).map ddD) (n : Int) = some (ddD x) := by rw [atI_natL, List.getElem?_map, hx]; rfl
      refine ⟨ddD x, hat, ?_⟩
      cases x with
      | a q p =>
        refine ⟨_, rfl, ?_⟩
        show cmpC .eq (.str ("ask" : Str)) (.str ("write" : Str)) _
        rw [r_eqs, ne_wa]
        refine ⟨_, rfl, ?_⟩
        rw [if_neg Bool.false_ne_true]
        exact right_tail (t := 0) hr (by omega) (by omega) (.inl rfl) fun s7 => ⟨_, _, _, _, rfl⟩
      | w l =>
        refine ⟨_, rfl, ?_⟩
        show cmpC .eq (.str ("write" : Str)) (.str ("write" : Str)) _
        rw [r_eqs, decide_eq_true rfl]
        refine ⟨_, rfl, ?_⟩
        rw [if_pos rfl]
        simp only [cb__law_right_4b1b0, wb, ws, rd, rq, rg, rl, rp, ri, rn, tgt, setAll, wipeL, Lit.d, Src.dat, List.set_cons_zero, List.set_cons_succ, List.getElem?_cons_zero, List.getElem?_cons_succ, List.map_cons, List.map_nil, List.cons_append, List.nil_append, List.append_nil, List.length_cons, List.length_nil, if_true, Bool.false_eq_true, if_false, Option.some.injEq, PyData.int.injEq, PyData.list.injEq, PyData.str.injEq, PyData.bool.injEq, PyData.tuple.injEq, Sl.m.injEq, Sl.l.injEq, Sl.d.injEq, exists_eq_left', exists_eq_left, true_and, r_sS, r_sl, r_sD, r_add, r_adds, r_addl, r_addt, r_sub, r_mul, r_mull, r_mod, r_fdiv, r_pow, r_lt, r_le, r_gt, r_ge, r_eq, r_eqs, r_eqb, r_ne, r_nes, r_neb, r_isN, r_notN, r_tb, r_ti, r_tl, r_tt, r_tn, r_lenl, r_lent, r_lens, r_lenc, r_int, r_intb, r_abs, r_max, r_min, r_tuple, r_tuplet, r_list, r_listt, r_repr, r_str, r_strs, r_all, r_any, r_idxl, r_idxt, r_idxs, r_idxc, r_slcl, r_slct, r_slcs, r_slcc, r_iteml, r_itemt, r_items, r_call, r_in_s, r_key, r_keys, r_count, r_str_ex, r_in_l, r_in_t, Nat.zero_add, Nat.reduceAdd, List.getD_cons_zero, List.getD_cons_succ, r_count, and_true, exists_const, List.length_map, fn_is_name, sh_is_name, fn_is_path, sh_is_path, fn_is_whole, sh_is_whole, fn_is_tuple_up_to, sh_is_tuple_up_to, fn_text_of, sh_text_of, fn_is_numeral, sh_is_numeral, fn_seal_in, sh_seal_in, fn__law_well, sh__law_well, fn__law_take, sh__law_take, fn__law_line, sh__law_line, fn__law_seal, sh__law_seal, fn__law_left, sh__law_left, fn_is_between, sh_is_between, fn_is_short_path, sh_is_short_path, fn_words_behind, sh_words_behind, fn__law_one, sh__law_one, fn__law_sealed, sh__law_sealed, fn_is_address, sh_is_address, fn_check_number, sh_check_number, fn_is_moment, sh_is_moment, fn_line_of, sh_line_of, fn__law_name, sh__law_name, fn__law_path, sh__law_path, fn__law_answer, sh__law_answer, fn__law_deeds, sh__law_deeds, fn_address_in, sh_address_in, fn_are_links, sh_are_links, fn_journal_line, sh_journal_line, fn_is_deed, sh_is_deed, fn__law_spots, sh__law_spots, fn__law_loose_rows, sh__law_loose_rows, fn_is_some_answer, sh_is_some_answer, fn_behind, sh_behind, sh_behind_1, sh_behind_2, sh_behind_3, fn_answer_of, sh_answer_of, fn_is_some_event, sh_is_some_event, fn_event_of, sh_event_of, fn_is_some_row, sh_is_some_row, fn_check_log, sh_check_log, fn_row_in, sh_row_in, fn_row_at, sh_row_at, fn_deeds_of, sh_deeds_of, sh_deeds_of_1, fn_read_journal, sh_read_journal, fn__law_is_kept, sh__law_is_kept, fn__law_right, sh__law_right, gl_ASK, gl_LETTERS, gl_SIGNS, gl_MOST_LETTERS, gl_MOST_SIGNS, gl_MOST_MOMENT, gl_MOST_MARK, gl_MOST_LINKS, gl_MOST_DIGITS, gl_DIGITS, gl_SEALS, ra, setSl, frzS, isiD, hdC, tlC, forC, rf, r_fmts, r_fmti, r_part, r_rpart, r_split, r_join, exists_eq']
        have h2 := dds_long rs 0 l (List.mem_of_getElem? hx)
        have h3 := hd0.1
        refine ⟨_, hat, stD l, rfl, line_le (show l.length ≤ _ by omega), (l.length : Int), rfl, ⟨by omega, by omega⟩, fun m m0 m1 => ⟨_, hat, stD l, rfl, line_le (show l.length ≤ _ by omega), line_le (by omega), .inl ⟨_, .inr rfl, by simp, by simp, fun x hx2 => ?_⟩⟩⟩
        obtain ⟨t, rfl, ht⟩ : ∃ t : Nat, x = .int (t : Nat) ∧ t + 1 ≤ l.length := by
          simp only [List.mem_cons, List.not_mem_nil, or_false] at hx2
          rcases hx2 with e | e | e | e
          · exact ⟨0, e, by omega⟩
          · exact ⟨1, e, by omega⟩
          · exact ⟨m.toNat, by rw [e]; congr 1; omega, by omega⟩
          · refine ⟨l.length - 1, ?_, by omega⟩
            rw [e]
            show PyData.int ((l.length : Int) - 1) = _
            congr 1
            omega
        exact right_tail (t := t) hr (by omega) (by omega) (.inr (by rw [aft_w hx]; exact ht)) fun s7 => ⟨_, _, _, _, rfl⟩
    · rw [decide_eq_false h, if_neg Bool.false_ne_true]
      exact right_tail (t := 0) hr (by omega) (by omega) (.inl rfl) fun s7 => ⟨_, _, _, _, rfl⟩
  · rintro δ ⟨s4, s5, s6, s7, rfl⟩
    simp only [cb__law_right_5, cb__law_right_6, cb__law_right_7, wb, ws, rd, rq, rg, rl, rp, ri, rn, tgt, setAll, wipeL, Lit.d, Src.dat, List.set_cons_zero, List.set_cons_succ, List.getElem?_cons_zero, List.getElem?_cons_succ, List.map_cons, List.map_nil, List.cons_append, List.nil_append, List.append_nil, List.length_cons, List.length_nil, if_true, Bool.false_eq_true, if_false, Option.some.injEq, PyData.int.injEq, PyData.list.injEq, PyData.str.injEq, PyData.bool.injEq, PyData.tuple.injEq, Sl.m.injEq, Sl.l.injEq, Sl.d.injEq, exists_eq_left', exists_eq_left, true_and, r_sS, r_sl, r_sD, r_add, r_adds, r_addl, r_addt, r_sub, r_mul, r_mull, r_mod, r_fdiv, r_pow, r_lt, r_le, r_gt, r_ge, r_eq, r_eqs, r_eqb, r_ne, r_nes, r_neb, r_isN, r_notN, r_tb, r_ti, r_tl, r_tt, r_tn, r_lenl, r_lent, r_lens, r_lenc, r_int, r_intb, r_abs, r_max, r_min, r_tuple, r_tuplet, r_list, r_listt, r_repr, r_str, r_strs, r_all, r_any, r_idxl, r_idxt, r_idxs, r_idxc, r_slcl, r_slct, r_slcs, r_slcc, r_iteml, r_itemt, r_items, r_call, r_in_s, r_key, r_keys, r_count, r_str_ex, r_in_l, r_in_t, Nat.zero_add, Nat.reduceAdd, List.getD_cons_zero, List.getD_cons_succ, r_count, and_true, exists_const, List.length_map, fn_is_name, sh_is_name, fn_is_path, sh_is_path, fn_is_whole, sh_is_whole, fn_is_tuple_up_to, sh_is_tuple_up_to, fn_text_of, sh_text_of, fn_is_numeral, sh_is_numeral, fn_seal_in, sh_seal_in, fn__law_well, sh__law_well, fn__law_take, sh__law_take, fn__law_line, sh__law_line, fn__law_seal, sh__law_seal, fn__law_left, sh__law_left, fn_is_between, sh_is_between, fn_is_short_path, sh_is_short_path, fn_words_behind, sh_words_behind, fn__law_one, sh__law_one, fn__law_sealed, sh__law_sealed, fn_is_address, sh_is_address, fn_check_number, sh_check_number, fn_is_moment, sh_is_moment, fn_line_of, sh_line_of, fn__law_name, sh__law_name, fn__law_path, sh__law_path, fn__law_answer, sh__law_answer, fn__law_deeds, sh__law_deeds, fn_address_in, sh_address_in, fn_are_links, sh_are_links, fn_journal_line, sh_journal_line, fn_is_deed, sh_is_deed, fn__law_spots, sh__law_spots, fn__law_loose_rows, sh__law_loose_rows, fn_is_some_answer, sh_is_some_answer, fn_behind, sh_behind, sh_behind_1, sh_behind_2, sh_behind_3, fn_answer_of, sh_answer_of, fn_is_some_event, sh_is_some_event, fn_event_of, sh_event_of, fn_is_some_row, sh_is_some_row, fn_check_log, sh_check_log, fn_row_in, sh_row_in, fn_row_at, sh_row_at, fn_deeds_of, sh_deeds_of, sh_deeds_of_1, fn_read_journal, sh_read_journal, fn__law_is_kept, sh__law_is_kept, fn__law_right, sh__law_right, gl_ASK, gl_LETTERS, gl_SIGNS, gl_MOST_LETTERS, gl_MOST_SIGNS, gl_MOST_MOMENT, gl_MOST_MARK, gl_MOST_LINKS, gl_MOST_DIGITS, gl_DIGITS, gl_SEALS, ra, setSl, frzS, isiD, hdC, tlC, forC, rf, r_fmts, r_fmti, r_part, r_rpart, r_split, r_join, exists_eq']
    obtain ⟨a0, as', rfl⟩ : ∃ a as', as = a :: as' := by
      cases as with
      | nil => have := ha.1; simp at this
      | cons a as' => exact ⟨a, as', rfl⟩
    obtain ⟨a1, ha1, hm1⟩ : ∃ a1, atI ((a0 :: as').map adD) (-1) = some (adD a1) ∧ a1 ∈ a0 :: as' := by
      refine ⟨(a0 :: as').getLast (by simp), ?_, List.getLast_mem _⟩
      rw [atI_neg1L, List.getLast?_map, List.getLast?_eq_getLast (by simp)]
      rfl
    refine ⟨line_le (by omega), adD a0, atI_head, line_le (by omega), line_le (by omega), line_le (by omega), adD a1, ha1, line_le (by omega), line_le (by omega), line_le (by omega), 9, rfl, by omega, fun m m0 m1 => ?_⟩
    have aok := ha.2.2
    obtain ⟨M, rfl⟩ : ∃ n : Nat, m = n := ⟨m.toNat, by omega⟩
    have eL : (ddsL 0 rs).map ddD ++ [PyData.tuple [PyData.str (Str.ofString "write"), PyData.str (Str.ofString "")], PyData.tuple [PyData.str (Str.ofString "ask"), PyData.int 0, adD a0], PyData.tuple [PyData.str (Str.ofString "write"), PyData.str (Str.ofString "x y")], PyData.tuple [PyData.str (Str.ofString "write"), PyData.str (Str.ofString "z")], PyData.tuple [PyData.str (Str.ofString "ask"), PyData.int 999999999999, adD a1]] = (ddsL 0 rs ++ [Dd.w [], Dd.a 0 a0, Dd.w [120, 32, 121], Dd.w [122], Dd.a 999999999999 a1]).map ddD := by
      rw [List.map_append]
      rfl
    rw [eL]
    have hL : ∀ d ∈ ddsL 0 rs ++ [.w [], .a 0 a0, .w [120, 32, 121], .w [122], .a 999999999999 a1], DdOk d := fun d hd => by
      rcases List.mem_append.mp hd with z | z
      · exact hdo d z
      · simp only [List.mem_cons, List.not_mem_nil, or_false] at z
        rcases z with z | z | z | z | z
        · rw [z]; exact ⟨by simp, by simp⟩
        · rw [z]; exact ⟨by omega, aok _ List.mem_cons_self⟩
        · rw [z]; exact ⟨by simp, by decide⟩
        · rw [z]; exact ⟨by simp, by decide⟩
        · rw [z]; exact ⟨by omega, aok _ hm1⟩
    generalize hLL : ddsL 0 rs ++ [.w [], .a 0 a0, .w [120, 32, 121], .w [122], .a 999999999999 a1] = L at hL
    have hlL : 1 ≤ L.length ∧ L.length ≤ 21 := by rw [← hLL, List.length_append]; simp; omega
    refine ⟨_, rfl, ⟨by omega, by omega⟩, by rw [List.length_range]; omega, fun n acc => ∃ ds, acc = ds.map ddD ∧ ds.length = n ∧ ∀ d ∈ ds, DdOk d, ⟨[], rfl, rfl, fun d h => nomatch h⟩, ?_, ?_⟩
    · rintro i d acc hd ⟨ds, rfl, hl, ho⟩ -
      refine .inl ⟨_, .inl rfl, by rw [List.length_map]; omega, by rw [List.length_map]; omega, fun x hx => ?_⟩
      obtain ⟨y, hy, rfl⟩ := List.mem_map.mp hx
      refine ⟨ds ++ [y], by rw [List.map_append]; rfl, by rw [List.length_append, hl]; rfl, fun d hd => ?_⟩
      rcases List.mem_append.mp hd with z | z
      · exact ho d z
      · rw [List.mem_singleton.mp z]; exact hL y hy
    · rintro acc ⟨ds, rfl, hl, ho⟩
      rw [List.length_range] at hl
      have e3 : ds.map ddD ++ [PyData.tuple [PyData.str (Str.ofString "write"), PyData.str (Str.ofString "ab~\n")]] = (ds ++ [Dd.w [97, 98, 126, 10]]).map ddD := by
        rw [List.map_append]
        rfl
      rw [e3]
      generalize hD : ds ++ [Dd.w [97, 98, 126, 10]] = D
      have hlD : D.length = M + 1 := by rw [← hD, List.length_append, hl]; rfl
      have hoD : ∀ d ∈ D, DdOk d := fun d hd => by
        rw [← hD] at hd
        rcases List.mem_append.mp hd with z | z
        · exact ho d z
        · rw [List.mem_singleton.mp z]; exact ⟨by simp, by decide⟩
      have haD : aftL D M = [97, 98, 126, 10] := by
        refine aft_w ?_
        rw [← hD, List.getElem?_append_right (by omega)]
        have : M - ds.length = 0 := by omega
        rw [this]
        rfl
      have eM : ((D.map ddD).length : Int) - 1 = (M : Int) := by rw [List.length_map]; omega
      rw [eM]
      have rl := left_repr (ds := D) M 2 (by omega) hoD
      refine ⟨line_le (by omega), line_le (by omega), line_le (by rw [List.length_map]; omega), D, M, 2, rfl, ⟨by omega, hoD⟩, by omega, .inr (by rw [haD]; decide), rl, D, M, 2, rfl, ⟨by omega, hoD⟩, by omega, .inr (by rw [haD]; decide), rl, ?_⟩
      rw [decide_eq_true rfl]
      exact hk
theorem law_law : ∀ ds kd er, ds.length = 1 → sp_law ds kd er → wb G er cb_law (EdK kd) (startD N_law ds) := by
  rintro ds kd er - ⟨ns, rfl, hk⟩
  show wb G er cb_law (EdK kd) [.d (scrD ns), .no]
  unfold cb_law
  simp only [wb, ws, rd, rq, rg, rl, rp, ri, rn, tgt, setAll, wipeL, Lit.d, Src.dat, List.set_cons_zero, List.set_cons_succ, List.getElem?_cons_zero, List.getElem?_cons_succ, List.map_cons, List.map_nil, List.cons_append, List.nil_append, List.append_nil, List.length_cons, List.length_nil, if_true, Bool.false_eq_true, if_false, Option.some.injEq, PyData.int.injEq, PyData.list.injEq, PyData.str.injEq, PyData.bool.injEq, PyData.tuple.injEq, Sl.m.injEq, Sl.l.injEq, Sl.d.injEq, exists_eq_left', exists_eq_left, true_and, r_sS, r_sl, r_sD, r_add, r_adds, r_addl, r_addt, r_sub, r_mul, r_mull, r_mod, r_fdiv, r_pow, r_lt, r_le, r_gt, r_ge, r_eq, r_eqs, r_eqb, r_ne, r_nes, r_neb, r_isN, r_notN, r_tb, r_ti, r_tl, r_tt, r_tn, r_lenl, r_lent, r_lens, r_lenc, r_int, r_intb, r_abs, r_max, r_min, r_tuple, r_tuplet, r_list, r_listt, r_repr, r_str, r_strs, r_all, r_any, r_idxl, r_idxt, r_idxs, r_idxc, r_slcl, r_slct, r_slcs, r_slcc, r_iteml, r_itemt, r_items, r_call, r_in_s, r_key, r_keys, r_count, r_str_ex, r_in_l, r_in_t, Nat.zero_add, Nat.reduceAdd, List.getD_cons_zero, List.getD_cons_succ, r_count, and_true, exists_const, List.length_map, fn_is_name, sh_is_name, fn_is_path, sh_is_path, fn_is_whole, sh_is_whole, fn_is_tuple_up_to, sh_is_tuple_up_to, fn_text_of, sh_text_of, fn_is_numeral, sh_is_numeral, fn_seal_in, sh_seal_in, fn__law_well, sh__law_well, fn__law_take, sh__law_take, fn__law_line, sh__law_line, fn__law_seal, sh__law_seal, fn__law_left, sh__law_left, fn_is_between, sh_is_between, fn_is_short_path, sh_is_short_path, fn_words_behind, sh_words_behind, fn__law_one, sh__law_one, fn__law_sealed, sh__law_sealed, fn_is_address, sh_is_address, fn_check_number, sh_check_number, fn_is_moment, sh_is_moment, fn_line_of, sh_line_of, fn__law_name, sh__law_name, fn__law_path, sh__law_path, fn__law_answer, sh__law_answer, fn__law_deeds, sh__law_deeds, fn_address_in, sh_address_in, fn_are_links, sh_are_links, fn_journal_line, sh_journal_line, fn_is_deed, sh_is_deed, fn__law_spots, sh__law_spots, fn__law_loose_rows, sh__law_loose_rows, fn_is_some_answer, sh_is_some_answer, fn_behind, sh_behind, sh_behind_1, sh_behind_2, sh_behind_3, fn_answer_of, sh_answer_of, fn_is_some_event, sh_is_some_event, fn_event_of, sh_event_of, fn_is_some_row, sh_is_some_row, fn_check_log, sh_check_log, fn_row_in, sh_row_in, fn_row_at, sh_row_at, fn_deeds_of, sh_deeds_of, sh_deeds_of_1, fn_read_journal, sh_read_journal, fn__law_is_kept, sh__law_is_kept, fn__law_right, sh__law_right, gl_ASK, gl_LETTERS, gl_SIGNS, gl_MOST_LETTERS, gl_MOST_SIGNS, gl_MOST_MOMENT, gl_MOST_MARK, gl_MOST_LINKS, gl_MOST_DIGITS, gl_DIGITS, gl_SEALS, ra, setSl, frzS, isiD, hdC, tlC, forC, rf, r_fmts, r_fmti, r_part, r_rpart, r_split, r_join, exists_eq']
  generalize hn : (if (if (4 : Int) < (ns.length : Int) then (4 : Int) else (ns.length : Int)) > 1 then if (4 : Int) < (ns.length : Int) then (4 : Int) else (ns.length : Int) else 1) = n
  have hb : 1 ≤ n ∧ n ≤ 4 := by subst hn; repeat' split <;> omega
  refine ⟨⟨by omega, by omega⟩, by rw [List.length_range]; omega, WTrue, rfl, ?_, fun acc hw => let ⟨bs, e, h⟩ := hw.fin; ⟨bs, e, by rw [h]; exact hk⟩⟩
  rintro i d acc hd hw -
  obtain ⟨hi, rfl⟩ := rng_at hd
  exact ⟨ns, i, rfl, ⟨by omega, by omega⟩, rfl, hw.snoc⟩
theorem law_go (ns : List Int) (h : ns.length ≤ 63) : sp_law [scrD ns] (fun d => d = .bool true) er0 := ⟨ns, rfl, rfl⟩
end K47

namespace K47
open PySem L2 PyProof.Rows FR
theorem sc_is_name : FnScope N_is_name ["value"] (defScope (top 10)) := ⟨rfl, rfl, rfl, by decide +kernel, rfl, by decide +kernel, by decide +kernel⟩
theorem ck_is_name : ckB cb_is_name C_is_name (defBody (top 10)) = true := by decide +kernel
theorem sc_is_path : FnScope N_is_path ["value"] (defScope (top 11)) := ⟨rfl, rfl, rfl, by decide +kernel, rfl, by decide +kernel, by decide +kernel⟩
theorem ck_is_path : ckB cb_is_path C_is_path (defBody (top 11)) = true := by decide +kernel
theorem sc_is_whole : FnScope N_is_whole ["value"] (defScope (top 13)) := ⟨rfl, rfl, rfl, by decide +kernel, rfl, by decide +kernel, by decide +kernel⟩
theorem ck_is_whole : ckB cb_is_whole C_is_whole (defBody (top 13)) = true := by decide +kernel
theorem sc_is_tuple_up_to : FnScope N_is_tuple_up_to ["value", "low", "high"] (defScope (top 15)) := ⟨rfl, rfl, rfl, by decide +kernel, rfl, by decide +kernel, by decide +kernel⟩
theorem ck_is_tuple_up_to : ckB cb_is_tuple_up_to C_is_tuple_up_to (defBody (top 15)) = true := by decide +kernel
theorem sc_text_of : FnScope N_text_of ["address"] (defScope (top 20)) := ⟨rfl, rfl, rfl, by decide +kernel, rfl, by decide +kernel, by decide +kernel⟩
theorem ck_text_of : ckB cb_text_of C_text_of (defBody (top 20)) = true := by decide +kernel
theorem sc_is_numeral : FnScope N_is_numeral ["word"] (defScope (top 35)) := ⟨rfl, rfl, rfl, by decide +kernel, rfl, by decide +kernel, by decide +kernel⟩
theorem ck_is_numeral : ckB cb_is_numeral C_is_numeral (defBody (top 35)) = true := by decide +kernel
theorem sc_seal_in : FnScope N_seal_in ["text"] (defScope (top 47)) := ⟨rfl, rfl, rfl, by decide +kernel, rfl, by decide +kernel, by decide +kernel⟩
theorem ck_seal_in : ckB cb_seal_in C_seal_in (defBody (top 47)) = true := by decide +kernel
theorem sc__law_well : FnScope N__law_well ["script", "turn"] (defScope (top 55)) := ⟨rfl, rfl, rfl, by decide +kernel, rfl, by decide +kernel, by decide +kernel⟩
theorem ck__law_well : ckB cb__law_well C__law_well (defBody (top 55)) = true := by decide +kernel
theorem sc__law_take : FnScope N__law_take ["well", "size"] (defScope (top 56)) := ⟨rfl, rfl, rfl, by decide +kernel, rfl, by decide +kernel, by decide +kernel⟩
theorem sc__law_line : FnScope N__law_line ["line"] (defScope (top 62)) := ⟨rfl, rfl, rfl, by decide +kernel, rfl, by decide +kernel, by decide +kernel⟩
theorem ck__law_line : ckB cb__law_line C__law_line (defBody (top 62)) = true := by decide +kernel
theorem sc__law_seal : FnScope N__law_seal ["said"] (defScope (top 63)) := ⟨rfl, rfl, rfl, by decide +kernel, rfl, by decide +kernel, by decide +kernel⟩
theorem ck__law_seal : ckB cb__law_seal C__law_seal (defBody (top 63)) = true := by decide +kernel
theorem sc__law_left : FnScope N__law_left ["acts", "size", "torn_here"] (defScope (top 67)) := ⟨rfl, rfl, rfl, by decide +kernel, rfl, by decide +kernel, by decide +kernel⟩
theorem ck__law_left : ckB cb__law_left C__law_left (defBody (top 67)) = true := by decide +kernel
theorem sc_is_between : FnScope N_is_between ["value", "low", "high"] (defScope (top 14)) := ⟨rfl, rfl, rfl, by decide +kernel, rfl, by decide +kernel, by decide +kernel⟩
theorem ck_is_between : ckB cb_is_between C_is_between (defBody (top 14)) = true := by decide +kernel
theorem sc_is_short_path : FnScope N_is_short_path ["value"] (defScope (top 18)) := ⟨rfl, rfl, rfl, by decide +kernel, rfl, by decide +kernel, by decide +kernel⟩
theorem ck_is_short_path : ckB cb_is_short_path C_is_short_path (defBody (top 18)) = true := by decide +kernel
theorem sc_words_behind : FnScope N_words_behind ["event"] (defScope (top 38)) := ⟨rfl, rfl, rfl, by decide +kernel, rfl, by decide +kernel, by decide +kernel⟩
theorem ck_words_behind : ckB cb_words_behind C_words_behind (defBody (top 38)) = true := by decide +kernel
theorem sc__law_one : FnScope N__law_one ["well", "some"] (defScope (top 57)) := ⟨rfl, rfl, rfl, by decide +kernel, rfl, by decide +kernel, by decide +kernel⟩
theorem ck__law_one : ckB cb__law_one C__law_one (defBody (top 57)) = true := by decide +kernel
theorem sc__law_sealed : FnScope N__law_sealed ["k", "line"] (defScope (top 64)) := ⟨rfl, rfl, rfl, by decide +kernel, rfl, by decide +kernel, by decide +kernel⟩
theorem ck__law_sealed : ckB cb__law_sealed C__law_sealed (defBody (top 64)) = true := by decide +kernel
theorem sc_is_address : FnScope N_is_address ["value"] (defScope (top 19)) := ⟨rfl, rfl, rfl, by decide +kernel, rfl, by decide +kernel, by decide +kernel⟩
theorem ck_is_address : ckB cb_is_address C_is_address (defBody (top 19)) = true := by decide +kernel
theorem sc_check_number : FnScope N_check_number ["value", "low", "high"] (defScope (top 23)) := ⟨rfl, rfl, rfl, by decide +kernel, rfl, by decide +kernel, by decide +kernel⟩
theorem ck_check_number : ckB cb_check_number C_check_number (defBody (top 23)) = true := by decide +kernel
theorem sc_is_moment : FnScope N_is_moment ["value"] (defScope (top 28)) := ⟨rfl, rfl, rfl, by decide +kernel, rfl, by decide +kernel, by decide +kernel⟩
theorem ck_is_moment : ckB cb_is_moment C_is_moment (defBody (top 28)) = true := by decide +kernel
theorem sc_line_of : FnScope N_line_of ["row"] (defScope (top 43)) := ⟨rfl, rfl, rfl, by decide +kernel, rfl, by decide +kernel, by decide +kernel⟩
theorem ck_line_of : ckB cb_line_of C_line_of (defBody (top 43)) = true := by decide +kernel
theorem sc__law_name : FnScope N__law_name ["well"] (defScope (top 58)) := ⟨rfl, rfl, rfl, by decide +kernel, rfl, by decide +kernel, by decide +kernel⟩
theorem ck__law_name : ckB cb__law_name C__law_name (defBody (top 58)) = true := by decide +kernel
theorem sc__law_path : FnScope N__law_path ["well"] (defScope (top 59)) := ⟨rfl, rfl, rfl, by decide +kernel, rfl, by decide +kernel, by decide +kernel⟩
theorem ck__law_path : ckB cb__law_path C__law_path (defBody (top 59)) = true := by decide +kernel
theorem sc__law_answer : FnScope N__law_answer ["well", "spots"] (defScope (top 61)) := ⟨rfl, rfl, rfl, by decide +kernel, rfl, by decide +kernel, by decide +kernel⟩
theorem ck__law_answer : ckB cb__law_answer C__law_answer (defBody (top 61)) = true := by decide +kernel
theorem sc__law_deeds : FnScope N__law_deeds ["book"] (defScope (top 66)) := ⟨rfl, rfl, rfl, by decide +kernel, rfl, by decide +kernel, by decide +kernel⟩
theorem ck__law_deeds : ckB cb__law_deeds C__law_deeds (defBody (top 66)) = true := by decide +kernel
theorem sc_address_in : FnScope N_address_in ["text"] (defScope (top 21)) := ⟨rfl, rfl, rfl, by decide +kernel, rfl, by decide +kernel, by decide +kernel⟩
theorem ck_address_in : ckB cb_address_in C_address_in (defBody (top 21)) = true := by decide +kernel
theorem sc_are_links : FnScope N_are_links ["value"] (defScope (top 29)) := ⟨rfl, rfl, rfl, by decide +kernel, rfl, by decide +kernel, by decide +kernel⟩
theorem ck_are_links : ckB cb_are_links C_are_links (defBody (top 29)) = true := by decide +kernel
theorem sc_journal_line : FnScope N_journal_line ["index", "row"] (defScope (top 48)) := ⟨rfl, rfl, rfl, by decide +kernel, rfl, by decide +kernel, by decide +kernel⟩
theorem ck_journal_line : ckB cb_journal_line C_journal_line (defBody (top 48)) = true := by decide +kernel
theorem sc_is_deed : FnScope N_is_deed ["value"] (defScope (top 52)) := ⟨rfl, rfl, rfl, by decide +kernel, rfl, by decide +kernel, by decide +kernel⟩
theorem ck_is_deed : ckB cb_is_deed C_is_deed (defBody (top 52)) = true := by decide +kernel
theorem sc__law_spots : FnScope N__law_spots ["well", "homes"] (defScope (top 60)) := ⟨rfl, rfl, rfl, by decide +kernel, rfl, by decide +kernel, by decide +kernel⟩
theorem ck__law_spots : ckB cb__law_spots C__law_spots (defBody (top 60)) = true := by decide +kernel
theorem sc__law_loose_rows : FnScope N__law_loose_rows ["well", "spots", "size"] (defScope (top 65)) := ⟨rfl, rfl, rfl, by decide +kernel, rfl, by decide +kernel, by decide +kernel⟩
theorem ck__law_loose_rows : ckB cb__law_loose_rows C__law_loose_rows (defBody (top 65)) = true := by decide +kernel
theorem sc_is_some_answer : FnScope N_is_some_answer ["value"] (defScope (top 30)) := ⟨rfl, rfl, rfl, by decide +kernel, rfl, by decide +kernel, by decide +kernel⟩
theorem ck_is_some_answer : ckB cb_is_some_answer C_is_some_answer (defBody (top 30)) = true := by decide +kernel
theorem sc_behind : FnScope N_behind ["deeds", "many", "torn"] (defScope (top 53)) := ⟨rfl, rfl, rfl, by decide +kernel, rfl, by decide +kernel, by decide +kernel⟩
theorem ck_behind : ckB cb_behind C_behind (defBody (top 53)) = true := by decide +kernel
theorem sc_answer_of : FnScope N_answer_of ["words"] (defScope (top 36)) := ⟨rfl, rfl, rfl, by decide +kernel, rfl, by decide +kernel, by decide +kernel⟩
theorem ck_answer_of : ckB cb_answer_of C_answer_of (defBody (top 36)) = true := by decide +kernel
theorem sc_is_some_event : FnScope N_is_some_event ["value"] (defScope (top 40)) := ⟨rfl, rfl, rfl, by decide +kernel, rfl, by decide +kernel, by decide +kernel⟩
theorem ck_is_some_event : ckB cb_is_some_event C_is_some_event (defBody (top 40)) = true := by decide +kernel
theorem sc_event_of : FnScope N_event_of ["words"] (defScope (top 37)) := ⟨rfl, rfl, rfl, by decide +kernel, rfl, by decide +kernel, by decide +kernel⟩
theorem ck_event_of : ckB cb_event_of C_event_of (defBody (top 37)) = true := by decide +kernel
theorem sc_is_some_row : FnScope N_is_some_row ["value"] (defScope (top 41)) := ⟨rfl, rfl, rfl, by decide +kernel, rfl, by decide +kernel, by decide +kernel⟩
theorem ck_is_some_row : ckB cb_is_some_row C_is_some_row (defBody (top 41)) = true := by decide +kernel
theorem sc_check_log : FnScope N_check_log ["value"] (defScope (top 42)) := ⟨rfl, rfl, rfl, by decide +kernel, rfl, by decide +kernel, by decide +kernel⟩
theorem ck_check_log : ckB cb_check_log C_check_log (defBody (top 42)) = true := by decide +kernel
theorem sc_row_in : FnScope N_row_in ["text"] (defScope (top 44)) := ⟨rfl, rfl, rfl, by decide +kernel, rfl, by decide +kernel, by decide +kernel⟩
theorem ck_row_in : ckB cb_row_in C_row_in (defBody (top 44)) = true := by decide +kernel
theorem sc_row_at : FnScope N_row_at ["line", "index"] (defScope (top 49)) := ⟨rfl, rfl, rfl, by decide +kernel, rfl, by decide +kernel, by decide +kernel⟩
theorem ck_row_at : ckB cb_row_at C_row_at (defBody (top 49)) = true := by decide +kernel
theorem sc_deeds_of : FnScope N_deeds_of ["log"] (defScope (top 51)) := ⟨rfl, rfl, rfl, by decide +kernel, rfl, by decide +kernel, by decide +kernel⟩
theorem ck_deeds_of : ckB cb_deeds_of C_deeds_of (defBody (top 51)) = true := by decide +kernel
theorem sc_read_journal : FnScope N_read_journal ["text"] (defScope (top 50)) := ⟨rfl, rfl, rfl, by decide +kernel, rfl, by decide +kernel, by decide +kernel⟩
theorem ck_read_journal : ckB cb_read_journal C_read_journal (defBody (top 50)) = true := by decide +kernel
theorem sc__law_is_kept : FnScope N__law_is_kept ["book", "told"] (defScope (top 68)) := ⟨rfl, rfl, rfl, by decide +kernel, rfl, by decide +kernel, by decide +kernel⟩
theorem ck__law_is_kept : ckB cb__law_is_kept C__law_is_kept (defBody (top 68)) = true := by decide +kernel
theorem sc__law_right : FnScope N__law_right ["well"] (defScope (top 69)) := ⟨rfl, rfl, rfl, by decide +kernel, rfl, by decide +kernel, by decide +kernel⟩
theorem ck__law_right : ckB cb__law_right C__law_right (defBody (top 69)) = true := by decide +kernel
theorem sc_law : FnScope N_law ["script"] (defScope (top 70)) := ⟨rfl, rfl, rfl, by decide +kernel, rfl, by decide +kernel, by decide +kernel⟩
theorem ck_law : ckB cb_law C_law (defBody (top 70)) = true := by decide +kernel
def d_is_name : He.DefD := ⟨("is_name", none), "is_name", "is_name", defArgs (top 10), defBody (top 10), defScope (top 10), [], []⟩
def d_is_path : He.DefD := ⟨("is_path", none), "is_path", "is_path", defArgs (top 11), defBody (top 11), defScope (top 11), [], []⟩
def d_is_whole : He.DefD := ⟨("is_whole", none), "is_whole", "is_whole", defArgs (top 13), defBody (top 13), defScope (top 13), [], []⟩
def d_is_tuple_up_to : He.DefD := ⟨("is_tuple_up_to", none), "is_tuple_up_to", "is_tuple_up_to", defArgs (top 15), defBody (top 15), defScope (top 15), [], []⟩
def d_text_of : He.DefD := ⟨("text_of", none), "text_of", "text_of", defArgs (top 20), defBody (top 20), defScope (top 20), [], []⟩
def d_is_numeral : He.DefD := ⟨("is_numeral", none), "is_numeral", "is_numeral", defArgs (top 35), defBody (top 35), defScope (top 35), [], []⟩
def d_seal_in : He.DefD := ⟨("seal_in", none), "seal_in", "seal_in", defArgs (top 47), defBody (top 47), defScope (top 47), [], []⟩
def d__law_well : He.DefD := ⟨("_law_well", none), "_law_well", "_law_well", defArgs (top 55), defBody (top 55), defScope (top 55), [], []⟩
def d__law_take : He.DefD := ⟨("_law_take", none), "_law_take", "_law_take", defArgs (top 56), defBody (top 56), defScope (top 56), [], []⟩
def d__law_line : He.DefD := ⟨("_law_line", none), "_law_line", "_law_line", defArgs (top 62), defBody (top 62), defScope (top 62), [], []⟩
def d__law_seal : He.DefD := ⟨("_law_seal", none), "_law_seal", "_law_seal", defArgs (top 63), defBody (top 63), defScope (top 63), [], []⟩
def d__law_left : He.DefD := ⟨("_law_left", none), "_law_left", "_law_left", defArgs (top 67), defBody (top 67), defScope (top 67), [], []⟩
def d_is_between : He.DefD := ⟨("is_between", none), "is_between", "is_between", defArgs (top 14), defBody (top 14), defScope (top 14), [], []⟩
def d_is_short_path : He.DefD := ⟨("is_short_path", none), "is_short_path", "is_short_path", defArgs (top 18), defBody (top 18), defScope (top 18), [], []⟩
def d_words_behind : He.DefD := ⟨("words_behind", none), "words_behind", "words_behind", defArgs (top 38), defBody (top 38), defScope (top 38), [], []⟩
def d__law_one : He.DefD := ⟨("_law_one", none), "_law_one", "_law_one", defArgs (top 57), defBody (top 57), defScope (top 57), [], []⟩
def d__law_sealed : He.DefD := ⟨("_law_sealed", none), "_law_sealed", "_law_sealed", defArgs (top 64), defBody (top 64), defScope (top 64), [], []⟩
def d_is_address : He.DefD := ⟨("is_address", none), "is_address", "is_address", defArgs (top 19), defBody (top 19), defScope (top 19), [], []⟩
def d_check_number : He.DefD := ⟨("check_number", none), "check_number", "check_number", defArgs (top 23), defBody (top 23), defScope (top 23), [], []⟩
def d_is_moment : He.DefD := ⟨("is_moment", none), "is_moment", "is_moment", defArgs (top 28), defBody (top 28), defScope (top 28), [], []⟩
def d_line_of : He.DefD := ⟨("line_of", none), "line_of", "line_of", defArgs (top 43), defBody (top 43), defScope (top 43), [], []⟩
def d__law_name : He.DefD := ⟨("_law_name", none), "_law_name", "_law_name", defArgs (top 58), defBody (top 58), defScope (top 58), [], []⟩
def d__law_path : He.DefD := ⟨("_law_path", none), "_law_path", "_law_path", defArgs (top 59), defBody (top 59), defScope (top 59), [], []⟩
def d__law_answer : He.DefD := ⟨("_law_answer", none), "_law_answer", "_law_answer", defArgs (top 61), defBody (top 61), defScope (top 61), [], []⟩
def d__law_deeds : He.DefD := ⟨("_law_deeds", none), "_law_deeds", "_law_deeds", defArgs (top 66), defBody (top 66), defScope (top 66), [], []⟩
def d_address_in : He.DefD := ⟨("address_in", none), "address_in", "address_in", defArgs (top 21), defBody (top 21), defScope (top 21), [], []⟩
def d_are_links : He.DefD := ⟨("are_links", none), "are_links", "are_links", defArgs (top 29), defBody (top 29), defScope (top 29), [], []⟩
def d_journal_line : He.DefD := ⟨("journal_line", none), "journal_line", "journal_line", defArgs (top 48), defBody (top 48), defScope (top 48), [], []⟩
def d_is_deed : He.DefD := ⟨("is_deed", none), "is_deed", "is_deed", defArgs (top 52), defBody (top 52), defScope (top 52), [], []⟩
def d__law_spots : He.DefD := ⟨("_law_spots", none), "_law_spots", "_law_spots", defArgs (top 60), defBody (top 60), defScope (top 60), [], []⟩
def d__law_loose_rows : He.DefD := ⟨("_law_loose_rows", none), "_law_loose_rows", "_law_loose_rows", defArgs (top 65), defBody (top 65), defScope (top 65), [], []⟩
def d_is_some_answer : He.DefD := ⟨("is_some_answer", none), "is_some_answer", "is_some_answer", defArgs (top 30), defBody (top 30), defScope (top 30), [], []⟩
def d_behind : He.DefD := ⟨("behind", none), "behind", "behind", defArgs (top 53), defBody (top 53), defScope (top 53), [(.int 0)], []⟩
def d_answer_of : He.DefD := ⟨("answer_of", none), "answer_of", "answer_of", defArgs (top 36), defBody (top 36), defScope (top 36), [], []⟩
def d_is_some_event : He.DefD := ⟨("is_some_event", none), "is_some_event", "is_some_event", defArgs (top 40), defBody (top 40), defScope (top 40), [], []⟩
def d_event_of : He.DefD := ⟨("event_of", none), "event_of", "event_of", defArgs (top 37), defBody (top 37), defScope (top 37), [], []⟩
def d_is_some_row : He.DefD := ⟨("is_some_row", none), "is_some_row", "is_some_row", defArgs (top 41), defBody (top 41), defScope (top 41), [], []⟩
def d_check_log : He.DefD := ⟨("check_log", none), "check_log", "check_log", defArgs (top 42), defBody (top 42), defScope (top 42), [], []⟩
def d_row_in : He.DefD := ⟨("row_in", none), "row_in", "row_in", defArgs (top 44), defBody (top 44), defScope (top 44), [], []⟩
def d_row_at : He.DefD := ⟨("row_at", none), "row_at", "row_at", defArgs (top 49), defBody (top 49), defScope (top 49), [], []⟩
def d_deeds_of : He.DefD := ⟨("deeds_of", none), "deeds_of", "deeds_of", defArgs (top 51), defBody (top 51), defScope (top 51), [], []⟩
def d_read_journal : He.DefD := ⟨("read_journal", none), "read_journal", "read_journal", defArgs (top 50), defBody (top 50), defScope (top 50), [], []⟩
def d__law_is_kept : He.DefD := ⟨("_law_is_kept", none), "_law_is_kept", "_law_is_kept", defArgs (top 68), defBody (top 68), defScope (top 68), [], []⟩
def d__law_right : He.DefD := ⟨("_law_right", none), "_law_right", "_law_right", defArgs (top 69), defBody (top 69), defScope (top 69), [], []⟩
def d_law : He.DefD := ⟨("law", none), "law", "law", defArgs (top 70), defBody (top 70), defScope (top 70), [], []⟩
def fnL : List He.DefD := [d_is_name, d_is_path, d_is_whole, d_is_tuple_up_to, d_text_of, d_is_numeral, d_seal_in, d__law_well, d__law_take, d__law_line, d__law_seal, d__law_left, d_is_between, d_is_short_path, d_words_behind, d__law_one, d__law_sealed, d_is_address, d_check_number, d_is_moment, d_line_of, d__law_name, d__law_path, d__law_answer, d__law_deeds, d_address_in, d_are_links, d_journal_line, d_is_deed, d__law_spots, d__law_loose_rows, d_is_some_answer, d_behind, d_answer_of, d_is_some_event, d_event_of, d_is_some_row, d_check_log, d_row_in, d_row_at, d_deeds_of, d_read_journal, d__law_is_kept, d__law_right, d_law]
def faL : List He.Fa := [.glo "is_name", .glo "is_path", .glo "is_whole", .glo "is_tuple_up_to", .glo "text_of", .glo "is_numeral", .glo "seal_in", .glo "_law_well", .glo "_law_take", .glo "_law_line", .glo "_law_seal", .glo "_law_left", .glo "is_between", .glo "is_short_path", .glo "words_behind", .glo "_law_one", .glo "_law_sealed", .glo "is_address", .glo "check_number", .glo "is_moment", .glo "line_of", .glo "_law_name", .glo "_law_path", .glo "_law_answer", .glo "_law_deeds", .glo "address_in", .glo "are_links", .glo "journal_line", .glo "is_deed", .glo "_law_spots", .glo "_law_loose_rows", .glo "is_some_answer", .glo "behind", .glo "answer_of", .glo "is_some_event", .glo "event_of", .glo "is_some_row", .glo "check_log", .glo "row_in", .glo "row_at", .glo "deeds_of", .glo "read_journal", .glo "_law_is_kept", .glo "_law_right", .glo "law", .free "abs", .free "all", .free "bool", .free "divmod", .free "enumerate", .free "int", .free "isinstance", .free "len", .free "list", .free "max", .free "min", .free "ord", .free "range", .free "repr", .free "str", .free "sum", .free "tuple", .str "DIGITS" "0123456789", .str "LETTERS" "abcdefghijklmnopqrstuvwxyz", .int "MOST_DIGITS" 12, .int "MOST_LETTERS" 12, .int "MOST_LINKS" 6, .int "MOST_MARK" 999999, .int "MOST_MOMENT" 999999999999, .int "MOST_SIGNS" 40, .int "SEALS" 999983, .str "SIGNS" "-./0123456789_abcdefghijklmnopqrstuvwxyz"]
abbrev R : PySem.W.OpenRow := PySem.W.OpenLaw.row PySem.Challenge.rw_freshrounds_k47_whole_deeds_and_cuts_at
def tuL : List FR.TupC := [("ASK", [(.str "ask")])]
abbrev hk : PySem.W.Hook := FR.hookT 4 faL fnL tuL
def ob (s : PySem.W.SharedT) : He.AlD := FR.obsTG 4 faL fnL tuL (HandSHeadRun.getT s)
theorem ob_eq (s : PySem.W.SharedT) : ob s = hk.obs s.abs := FR.obsTG_eq (HandSHeadRun.getT_eq s)
def looseL : List Str := (["CrawlError", "InvalidNumber", "InvalidLog", "InvalidJournal", "InvalidDeeds", "LETTERS", "SIGNS", "MOST_LETTERS", "is_name", "is_path", "is_whole", "is_between", "is_tuple_up_to", "MOST_SIGNS", "is_short_path", "is_address", "text_of", "address_in", "check_number", "MOST_MOMENT", "MOST_MARK", "MOST_LINKS", "is_moment", "are_links", "is_some_answer", "MOST_DIGITS", "DIGITS", "ASK", "is_numeral", "answer_of"] : List Str) ++ (["event_of", "words_behind", "is_some_event", "is_some_row", "check_log", "line_of", "row_in", "SEALS", "seal_in", "journal_line", "row_at", "read_journal", "deeds_of", "is_deed", "behind", "_law_well", "_law_take", "_law_one", "_law_name", "_law_path", "_law_spots", "_law_answer", "_law_line", "_law_seal", "_law_sealed", "_law_loose_rows", "_law_deeds", "_law_left", "_law_is_kept", "_law_right"] : List Str)
theorem run (w : World) : HandSHeadRun.RunEq R (PySem.W.view R.prog [70]) hk ob 4000 looseL w := by
  intro os
  kernel_rfl
section
variable {P : Program} {w : World} {K : PySem.W.Frag} {h base : Heap} {mg : Str → Option Value}
theorem all_ok (X : K.In h) (Gn : h.Ns mainGlobals mg) (cT : FR.SaysT faL fnL tuL K) : ∃ fd : FuncData, (∀ (s : Shared) (v : Value), BindsTo s fd ⟨[v], []⟩ [("script", v)]) ∧ (mg "law" = some (.ref (He.ga K "law"))) ∧ ∀ base : Heap, FnG P w K mg base 13 (He.ga K "law") fd ["script"] (spG K ct0 1 sp_law) := by
  have c := cT.both.1
  obtain ⟨fd_is_name, F_is_name⟩ := c.def_ 0 (d := d_is_name) rfl
  have g_is_name := He.glo_ok X Gn (c.fact 0 (f := .glo "is_name") rfl)
  obtain ⟨fd_is_path, F_is_path⟩ := c.def_ 1 (d := d_is_path) rfl
  have g_is_path := He.glo_ok X Gn (c.fact 1 (f := .glo "is_path") rfl)
  obtain ⟨fd_is_whole, F_is_whole⟩ := c.def_ 2 (d := d_is_whole) rfl
  have g_is_whole := He.glo_ok X Gn (c.fact 2 (f := .glo "is_whole") rfl)
  obtain ⟨fd_is_tuple_up_to, F_is_tuple_up_to⟩ := c.def_ 3 (d := d_is_tuple_up_to) rfl
  have g_is_tuple_up_to := He.glo_ok X Gn (c.fact 3 (f := .glo "is_tuple_up_to") rfl)
  obtain ⟨fd_text_of, F_text_of⟩ := c.def_ 4 (d := d_text_of) rfl
  have g_text_of := He.glo_ok X Gn (c.fact 4 (f := .glo "text_of") rfl)
  obtain ⟨fd_is_numeral, F_is_numeral⟩ := c.def_ 5 (d := d_is_numeral) rfl
  have g_is_numeral := He.glo_ok X Gn (c.fact 5 (f := .glo "is_numeral") rfl)
  obtain ⟨fd_seal_in, F_seal_in⟩ := c.def_ 6 (d := d_seal_in) rfl
  have g_seal_in := He.glo_ok X Gn (c.fact 6 (f := .glo "seal_in") rfl)
  obtain ⟨fd__law_well, F__law_well⟩ := c.def_ 7 (d := d__law_well) rfl
  have g__law_well := He.glo_ok X Gn (c.fact 7 (f := .glo "_law_well") rfl)
  obtain ⟨fd__law_take, F__law_take⟩ := c.def_ 8 (d := d__law_take) rfl
  have g__law_take := He.glo_ok X Gn (c.fact 8 (f := .glo "_law_take") rfl)
  obtain ⟨fd__law_line, F__law_line⟩ := c.def_ 9 (d := d__law_line) rfl
  have g__law_line := He.glo_ok X Gn (c.fact 9 (f := .glo "_law_line") rfl)
  obtain ⟨fd__law_seal, F__law_seal⟩ := c.def_ 10 (d := d__law_seal) rfl
  have g__law_seal := He.glo_ok X Gn (c.fact 10 (f := .glo "_law_seal") rfl)
  obtain ⟨fd__law_left, F__law_left⟩ := c.def_ 11 (d := d__law_left) rfl
  have g__law_left := He.glo_ok X Gn (c.fact 11 (f := .glo "_law_left") rfl)
  obtain ⟨fd_is_between, F_is_between⟩ := c.def_ 12 (d := d_is_between) rfl
  have g_is_between := He.glo_ok X Gn (c.fact 12 (f := .glo "is_between") rfl)
  obtain ⟨fd_is_short_path, F_is_short_path⟩ := c.def_ 13 (d := d_is_short_path) rfl
  have g_is_short_path := He.glo_ok X Gn (c.fact 13 (f := .glo "is_short_path") rfl)
  obtain ⟨fd_words_behind, F_words_behind⟩ := c.def_ 14 (d := d_words_behind) rfl
  have g_words_behind := He.glo_ok X Gn (c.fact 14 (f := .glo "words_behind") rfl)
  obtain ⟨fd__law_one, F__law_one⟩ := c.def_ 15 (d := d__law_one) rfl
  have g__law_one := He.glo_ok X Gn (c.fact 15 (f := .glo "_law_one") rfl)
  obtain ⟨fd__law_sealed, F__law_sealed⟩ := c.def_ 16 (d := d__law_sealed) rfl
  have g__law_sealed := He.glo_ok X Gn (c.fact 16 (f := .glo "_law_sealed") rfl)
  obtain ⟨fd_is_address, F_is_address⟩ := c.def_ 17 (d := d_is_address) rfl
  have g_is_address := He.glo_ok X Gn (c.fact 17 (f := .glo "is_address") rfl)
  obtain ⟨fd_check_number, F_check_number⟩ := c.def_ 18 (d := d_check_number) rfl
  have g_check_number := He.glo_ok X Gn (c.fact 18 (f := .glo "check_number") rfl)
  obtain ⟨fd_is_moment, F_is_moment⟩ := c.def_ 19 (d := d_is_moment) rfl
  have g_is_moment := He.glo_ok X Gn (c.fact 19 (f := .glo "is_moment") rfl)
  obtain ⟨fd_line_of, F_line_of⟩ := c.def_ 20 (d := d_line_of) rfl
  have g_line_of := He.glo_ok X Gn (c.fact 20 (f := .glo "line_of") rfl)
  obtain ⟨fd__law_name, F__law_name⟩ := c.def_ 21 (d := d__law_name) rfl
  have g__law_name := He.glo_ok X Gn (c.fact 21 (f := .glo "_law_name") rfl)
  obtain ⟨fd__law_path, F__law_path⟩ := c.def_ 22 (d := d__law_path) rfl
  have g__law_path := He.glo_ok X Gn (c.fact 22 (f := .glo "_law_path") rfl)
  obtain ⟨fd__law_answer, F__law_answer⟩ := c.def_ 23 (d := d__law_answer) rfl
  have g__law_answer := He.glo_ok X Gn (c.fact 23 (f := .glo "_law_answer") rfl)
  obtain ⟨fd__law_deeds, F__law_deeds⟩ := c.def_ 24 (d := d__law_deeds) rfl
  have g__law_deeds := He.glo_ok X Gn (c.fact 24 (f := .glo "_law_deeds") rfl)
  obtain ⟨fd_address_in, F_address_in⟩ := c.def_ 25 (d := d_address_in) rfl
  have g_address_in := He.glo_ok X Gn (c.fact 25 (f := .glo "address_in") rfl)
  obtain ⟨fd_are_links, F_are_links⟩ := c.def_ 26 (d := d_are_links) rfl
  have g_are_links := He.glo_ok X Gn (c.fact 26 (f := .glo "are_links") rfl)
  obtain ⟨fd_journal_line, F_journal_line⟩ := c.def_ 27 (d := d_journal_line) rfl
  have g_journal_line := He.glo_ok X Gn (c.fact 27 (f := .glo "journal_line") rfl)
  obtain ⟨fd_is_deed, F_is_deed⟩ := c.def_ 28 (d := d_is_deed) rfl
  have g_is_deed := He.glo_ok X Gn (c.fact 28 (f := .glo "is_deed") rfl)
  obtain ⟨fd__law_spots, F__law_spots⟩ := c.def_ 29 (d := d__law_spots) rfl
  have g__law_spots := He.glo_ok X Gn (c.fact 29 (f := .glo "_law_spots") rfl)
  obtain ⟨fd__law_loose_rows, F__law_loose_rows⟩ := c.def_ 30 (d := d__law_loose_rows) rfl
  have g__law_loose_rows := He.glo_ok X Gn (c.fact 30 (f := .glo "_law_loose_rows") rfl)
  obtain ⟨fd_is_some_answer, F_is_some_answer⟩ := c.def_ 31 (d := d_is_some_answer) rfl
  have g_is_some_answer := He.glo_ok X Gn (c.fact 31 (f := .glo "is_some_answer") rfl)
  obtain ⟨fd_behind, F_behind⟩ := c.def_ 32 (d := d_behind) rfl
  have g_behind := He.glo_ok X Gn (c.fact 32 (f := .glo "behind") rfl)
  obtain ⟨fd_answer_of, F_answer_of⟩ := c.def_ 33 (d := d_answer_of) rfl
  have g_answer_of := He.glo_ok X Gn (c.fact 33 (f := .glo "answer_of") rfl)
  obtain ⟨fd_is_some_event, F_is_some_event⟩ := c.def_ 34 (d := d_is_some_event) rfl
  have g_is_some_event := He.glo_ok X Gn (c.fact 34 (f := .glo "is_some_event") rfl)
  obtain ⟨fd_event_of, F_event_of⟩ := c.def_ 35 (d := d_event_of) rfl
  have g_event_of := He.glo_ok X Gn (c.fact 35 (f := .glo "event_of") rfl)
  obtain ⟨fd_is_some_row, F_is_some_row⟩ := c.def_ 36 (d := d_is_some_row) rfl
  have g_is_some_row := He.glo_ok X Gn (c.fact 36 (f := .glo "is_some_row") rfl)
  obtain ⟨fd_check_log, F_check_log⟩ := c.def_ 37 (d := d_check_log) rfl
  have g_check_log := He.glo_ok X Gn (c.fact 37 (f := .glo "check_log") rfl)
  obtain ⟨fd_row_in, F_row_in⟩ := c.def_ 38 (d := d_row_in) rfl
  have g_row_in := He.glo_ok X Gn (c.fact 38 (f := .glo "row_in") rfl)
  obtain ⟨fd_row_at, F_row_at⟩ := c.def_ 39 (d := d_row_at) rfl
  have g_row_at := He.glo_ok X Gn (c.fact 39 (f := .glo "row_at") rfl)
  obtain ⟨fd_deeds_of, F_deeds_of⟩ := c.def_ 40 (d := d_deeds_of) rfl
  have g_deeds_of := He.glo_ok X Gn (c.fact 40 (f := .glo "deeds_of") rfl)
  obtain ⟨fd_read_journal, F_read_journal⟩ := c.def_ 41 (d := d_read_journal) rfl
  have g_read_journal := He.glo_ok X Gn (c.fact 41 (f := .glo "read_journal") rfl)
  obtain ⟨fd__law_is_kept, F__law_is_kept⟩ := c.def_ 42 (d := d__law_is_kept) rfl
  have g__law_is_kept := He.glo_ok X Gn (c.fact 42 (f := .glo "_law_is_kept") rfl)
  obtain ⟨fd__law_right, F__law_right⟩ := c.def_ 43 (d := d__law_right) rfl
  have g__law_right := He.glo_ok X Gn (c.fact 43 (f := .glo "_law_right") rfl)
  obtain ⟨fd_law, F_law⟩ := c.def_ 44 (d := d_law) rfl
  have g_law := He.glo_ok X Gn (c.fact 44 (f := .glo "law") rfl)
  have z_abs := He.free_ok X Gn (c.fact 45 (f := .free "abs") rfl)
  have z_all := He.free_ok X Gn (c.fact 46 (f := .free "all") rfl)
  have z_bool := He.free_ok X Gn (c.fact 47 (f := .free "bool") rfl)
  have z_divmod := He.free_ok X Gn (c.fact 48 (f := .free "divmod") rfl)
  have z_enumerate := He.free_ok X Gn (c.fact 49 (f := .free "enumerate") rfl)
  have z_int := He.free_ok X Gn (c.fact 50 (f := .free "int") rfl)
  have z_isinstance := He.free_ok X Gn (c.fact 51 (f := .free "isinstance") rfl)
  have z_len := He.free_ok X Gn (c.fact 52 (f := .free "len") rfl)
  have z_list := He.free_ok X Gn (c.fact 53 (f := .free "list") rfl)
  have z_max := He.free_ok X Gn (c.fact 54 (f := .free "max") rfl)
  have z_min := He.free_ok X Gn (c.fact 55 (f := .free "min") rfl)
  have z_ord := He.free_ok X Gn (c.fact 56 (f := .free "ord") rfl)
  have z_range := He.free_ok X Gn (c.fact 57 (f := .free "range") rfl)
  have z_repr := He.free_ok X Gn (c.fact 58 (f := .free "repr") rfl)
  have z_str := He.free_ok X Gn (c.fact 59 (f := .free "str") rfl)
  have z_sum := He.free_ok X Gn (c.fact 60 (f := .free "sum") rfl)
  have z_tuple := He.free_ok X Gn (c.fact 61 (f := .free "tuple") rfl)
  have c_DIGITS : ∃ d v u, mg "DIGITS" = some u ∧ RelV v u ∧ G.gl "DIGITS" = some d ∧ ∀ H, Dv K H v d := by
    obtain ⟨t, e⟩ := He.str_ok X Gn (c.fact 62 (f := .str "DIGITS" "0123456789") rfl)
    exact ⟨_, .str "0123456789", _, e, ⟨t, rfl⟩, gl_DIGITS, fun H => .str _⟩
  have c_LETTERS : ∃ d v u, mg "LETTERS" = some u ∧ RelV v u ∧ G.gl "LETTERS" = some d ∧ ∀ H, Dv K H v d := by
    obtain ⟨t, e⟩ := He.str_ok X Gn (c.fact 63 (f := .str "LETTERS" "abcdefghijklmnopqrstuvwxyz") rfl)
    exact ⟨_, .str "abcdefghijklmnopqrstuvwxyz", _, e, ⟨t, rfl⟩, gl_LETTERS, fun H => .str _⟩
  have c_MOST_DIGITS : ∃ d v u, mg "MOST_DIGITS" = some u ∧ RelV v u ∧ G.gl "MOST_DIGITS" = some d ∧ ∀ H, Dv K H v d := by
    obtain ⟨t, e⟩ := He.int_ok X Gn (c.fact 64 (f := .int "MOST_DIGITS" 12) rfl)
    exact ⟨_, .int 12, _, e, ⟨t, rfl⟩, gl_MOST_DIGITS, fun H => .int _⟩
  have c_MOST_LETTERS : ∃ d v u, mg "MOST_LETTERS" = some u ∧ RelV v u ∧ G.gl "MOST_LETTERS" = some d ∧ ∀ H, Dv K H v d := by
    obtain ⟨t, e⟩ := He.int_ok X Gn (c.fact 65 (f := .int "MOST_LETTERS" 12) rfl)
    exact ⟨_, .int 12, _, e, ⟨t, rfl⟩, gl_MOST_LETTERS, fun H => .int _⟩
  have c_MOST_LINKS : ∃ d v u, mg "MOST_LINKS" = some u ∧ RelV v u ∧ G.gl "MOST_LINKS" = some d ∧ ∀ H, Dv K H v d := by
    obtain ⟨t, e⟩ := He.int_ok X Gn (c.fact 66 (f := .int "MOST_LINKS" 6) rfl)
    exact ⟨_, .int 6, _, e, ⟨t, rfl⟩, gl_MOST_LINKS, fun H => .int _⟩
  have c_MOST_MARK : ∃ d v u, mg "MOST_MARK" = some u ∧ RelV v u ∧ G.gl "MOST_MARK" = some d ∧ ∀ H, Dv K H v d := by
    obtain ⟨t, e⟩ := He.int_ok X Gn (c.fact 67 (f := .int "MOST_MARK" 999999) rfl)
    exact ⟨_, .int 999999, _, e, ⟨t, rfl⟩, gl_MOST_MARK, fun H => .int _⟩
  have c_MOST_MOMENT : ∃ d v u, mg "MOST_MOMENT" = some u ∧ RelV v u ∧ G.gl "MOST_MOMENT" = some d ∧ ∀ H, Dv K H v d := by
    obtain ⟨t, e⟩ := He.int_ok X Gn (c.fact 68 (f := .int "MOST_MOMENT" 999999999999) rfl)
    exact ⟨_, .int 999999999999, _, e, ⟨t, rfl⟩, gl_MOST_MOMENT, fun H => .int _⟩
  have c_MOST_SIGNS : ∃ d v u, mg "MOST_SIGNS" = some u ∧ RelV v u ∧ G.gl "MOST_SIGNS" = some d ∧ ∀ H, Dv K H v d := by
    obtain ⟨t, e⟩ := He.int_ok X Gn (c.fact 69 (f := .int "MOST_SIGNS" 40) rfl)
    exact ⟨_, .int 40, _, e, ⟨t, rfl⟩, gl_MOST_SIGNS, fun H => .int _⟩
  have c_SEALS : ∃ d v u, mg "SEALS" = some u ∧ RelV v u ∧ G.gl "SEALS" = some d ∧ ∀ H, Dv K H v d := by
    obtain ⟨t, e⟩ := He.int_ok X Gn (c.fact 70 (f := .int "SEALS" 999983) rfl)
    exact ⟨_, .int 999983, _, e, ⟨t, rfl⟩, gl_SEALS, fun H => .int _⟩
  have c_SIGNS : ∃ d v u, mg "SIGNS" = some u ∧ RelV v u ∧ G.gl "SIGNS" = some d ∧ ∀ H, Dv K H v d := by
    obtain ⟨t, e⟩ := He.str_ok X Gn (c.fact 71 (f := .str "SIGNS" "-./0123456789_abcdefghijklmnopqrstuvwxyz") rfl)
    exact ⟨_, .str "-./0123456789_abcdefghijklmnopqrstuvwxyz", _, e, ⟨t, rfl⟩, gl_SIGNS, fun H => .str _⟩
  have c_ASK : ∃ d v u, mg "ASK" = some u ∧ RelV v u ∧ G.gl "ASK" = some d ∧ ∀ H, Dv K H v d := by
    obtain ⟨v, u, h1, h2, h3⟩ := FR.tupC_ok (x := "ASK") (vs := [(.str "ask")]) X Gn cT (by simp [tuL]) (ds := [PyData.str "ask"]) fun H => (.cons (.str _) .nil)
    exact ⟨_, v, u, h1, h2, gl_ASK, h3⟩
  have E_is_name : ∀ base : Heap, Env1 P w K mg base G ct0 0 C_is_name := fun base => ⟨(df_cons z_all (df_cons z_isinstance (df_cons z_len (df_cons z_str df_nil)))), df_nil, (df_cons c_LETTERS (df_cons c_MOST_LETTERS df_nil))⟩
  have FN_is_name : ∀ base : Heap, FnG P w K mg base 1 (He.ga K "is_name") fd_is_name ["value"] (spG K ct0 1 sp_is_name) := fun base => def_ok F_is_name (E_is_name base) sc_is_name rfl rfl ck_is_name law_is_name
  have DG_is_name : ∀ base : Heap, DefG P w K mg base G ct0 1 "is_name" := fun base => defG_of (l := [(1, [], [Src.p 0])]) fn_is_name g_is_name F_is_name.kp (FN_is_name base) (by kernel_rfl) (good_cons (good0 F_is_name rfl rfl fun _ _ _ _ _ _ us ws hu hw => match us, ws, hu, hw with | [_], [], _, _ => rfl) good_nil)
  have E_is_path : ∀ base : Heap, Env1 P w K mg base G ct0 0 C_is_path := fun base => ⟨(df_cons z_all (df_cons z_isinstance (df_cons z_str df_nil))), df_nil, (df_cons c_SIGNS df_nil)⟩
  have FN_is_path : ∀ base : Heap, FnG P w K mg base 1 (He.ga K "is_path") fd_is_path ["value"] (spG K ct0 1 sp_is_path) := fun base => def_ok F_is_path (E_is_path base) sc_is_path rfl rfl ck_is_path law_is_path
  have DG_is_path : ∀ base : Heap, DefG P w K mg base G ct0 1 "is_path" := fun base => defG_of (l := [(1, [], [Src.p 0])]) fn_is_path g_is_path F_is_path.kp (FN_is_path base) (by kernel_rfl) (good_cons (good0 F_is_path rfl rfl fun _ _ _ _ _ _ us ws hu hw => match us, ws, hu, hw with | [_], [], _, _ => rfl) good_nil)
  have E_is_whole : ∀ base : Heap, Env1 P w K mg base G ct0 0 C_is_whole := fun base => ⟨(df_cons z_bool (df_cons z_int (df_cons z_isinstance df_nil))), df_nil, df_nil⟩
  have FN_is_whole : ∀ base : Heap, FnG P w K mg base 1 (He.ga K "is_whole") fd_is_whole ["value"] (spG K ct0 1 sp_is_whole) := fun base => def_ok F_is_whole (E_is_whole base) sc_is_whole rfl rfl ck_is_whole law_is_whole
  have DG_is_whole : ∀ base : Heap, DefG P w K mg base G ct0 1 "is_whole" := fun base => defG_of (l := [(1, [], [Src.p 0])]) fn_is_whole g_is_whole F_is_whole.kp (FN_is_whole base) (by kernel_rfl) (good_cons (good0 F_is_whole rfl rfl fun _ _ _ _ _ _ us ws hu hw => match us, ws, hu, hw with | [_], [], _, _ => rfl) good_nil)
  have E_is_tuple_up_to : ∀ base : Heap, Env1 P w K mg base G ct0 0 C_is_tuple_up_to := fun base => ⟨(df_cons z_isinstance (df_cons z_len (df_cons z_tuple df_nil))), df_nil, df_nil⟩
  have FN_is_tuple_up_to : ∀ base : Heap, FnG P w K mg base 1 (He.ga K "is_tuple_up_to") fd_is_tuple_up_to ["value", "low", "high"] (spG K ct0 3 sp_is_tuple_up_to) := fun base => def_ok F_is_tuple_up_to (E_is_tuple_up_to base) sc_is_tuple_up_to rfl rfl ck_is_tuple_up_to law_is_tuple_up_to
  have DG_is_tuple_up_to : ∀ base : Heap, DefG P w K mg base G ct0 1 "is_tuple_up_to" := fun base => defG_of (l := [(3, [], [Src.p 0, Src.p 1, Src.p 2])]) fn_is_tuple_up_to g_is_tuple_up_to F_is_tuple_up_to.kp (FN_is_tuple_up_to base) (by kernel_rfl) (good_cons (good0 F_is_tuple_up_to rfl rfl fun _ _ _ _ _ _ us ws hu hw => match us, ws, hu, hw with | [_, _, _], [], _, _ => rfl) good_nil)
  have E_text_of : ∀ base : Heap, Env1 P w K mg base G ct0 0 C_text_of := fun base => ⟨df_nil, df_nil, df_nil⟩
  have FN_text_of : ∀ base : Heap, FnG P w K mg base 1 (He.ga K "text_of") fd_text_of ["address"] (spG K ct0 1 sp_text_of) := fun base => def_ok F_text_of (E_text_of base) sc_text_of rfl rfl ck_text_of law_text_of
  have DG_text_of : ∀ base : Heap, DefG P w K mg base G ct0 1 "text_of" := fun base => defG_of (l := [(1, [], [Src.p 0])]) fn_text_of g_text_of F_text_of.kp (FN_text_of base) (by kernel_rfl) (good_cons (good0 F_text_of rfl rfl fun _ _ _ _ _ _ us ws hu hw => match us, ws, hu, hw with | [_], [], _, _ => rfl) good_nil)
  have E_is_numeral : ∀ base : Heap, Env1 P w K mg base G ct0 0 C_is_numeral := fun base => ⟨(df_cons z_all (df_cons z_len df_nil)), df_nil, (df_cons c_DIGITS (df_cons c_MOST_DIGITS df_nil))⟩
  have FN_is_numeral : ∀ base : Heap, FnG P w K mg base 1 (He.ga K "is_numeral") fd_is_numeral ["word"] (spG K ct0 1 sp_is_numeral) := fun base => def_ok F_is_numeral (E_is_numeral base) sc_is_numeral rfl rfl ck_is_numeral law_is_numeral
  have DG_is_numeral : ∀ base : Heap, DefG P w K mg base G ct0 1 "is_numeral" := fun base => defG_of (l := [(1, [], [Src.p 0])]) fn_is_numeral g_is_numeral F_is_numeral.kp (FN_is_numeral base) (by kernel_rfl) (good_cons (good0 F_is_numeral rfl rfl fun _ _ _ _ _ _ us ws hu hw => match us, ws, hu, hw with | [_], [], _, _ => rfl) good_nil)
  have E_seal_in : ∀ base : Heap, Env1 P w K mg base G ct0 0 C_seal_in := fun base => ⟨(df_cons z_enumerate (df_cons z_ord (df_cons z_sum df_nil))), df_nil, (df_cons c_SEALS df_nil)⟩
  have FN_seal_in : ∀ base : Heap, FnG P w K mg base 1 (He.ga K "seal_in") fd_seal_in ["text"] (spG K ct0 1 sp_seal_in) := fun base => def_ok F_seal_in (E_seal_in base) sc_seal_in rfl rfl ck_seal_in law_seal_in
  have DG_seal_in : ∀ base : Heap, DefG P w K mg base G ct0 1 "seal_in" := fun base => defG_of (l := [(1, [], [Src.p 0])]) fn_seal_in g_seal_in F_seal_in.kp (FN_seal_in base) (by kernel_rfl) (good_cons (good0 F_seal_in rfl rfl fun _ _ _ _ _ _ us ws hu hw => match us, ws, hu, hw with | [_], [], _, _ => rfl) good_nil)
  have E__law_well : ∀ base : Heap, Env1 P w K mg base G ct0 0 C__law_well := fun base => ⟨(df_cons z_abs (df_cons z_int (df_cons z_len df_nil))), df_nil, df_nil⟩
  have FN__law_well : ∀ base : Heap, FnG P w K mg base 1 (He.ga K "_law_well") fd__law_well ["script", "turn"] (spG K ct0 2 wellFS) := fun base => well_def F__law_well (E__law_well base) sc__law_well rfl rfl ck__law_well fun ns t rf h0 h1 h2 => well2_law ns t rf h0 h1 h2
  have DG__law_well : ∀ base : Heap, DefG P w K mg base G ct0 1 "_law_well" := fun base => defG_of (l := [(2, [], [Src.p 0, Src.p 1])]) fn__law_well g__law_well F__law_well.kp (FN__law_well base) (by kernel_rfl) (good_cons (good0 F__law_well rfl rfl fun _ _ _ _ _ _ us ws hu hw => match us, ws, hu, hw with | [_, _], [], _, _ => rfl) good_nil)
  have E__law_take : ∀ base : Heap, Env1 P w K mg base G ct0 0 C__law_take := fun base => ⟨(df_cons z_divmod (df_cons z_int df_nil)), df_nil, df_nil⟩
  have FN__law_take : ∀ base : Heap, FnG P w K mg base 1 (He.ga K "_law_take") fd__law_take ["well", "size"] (spG K ct0 2 pickFS) := fun base => draw_ok F__law_take sc__law_take fun X hc hN hs hm => take_body hc (by rw [hN]; decide) (by rw [hN]; rfl) (by rw [hN]; rfl) (by rw [hN]; rfl) (by rw [hs]; rfl) (by rw [hs]; rfl) (by rw [hs]; rfl) (by decide) (by decide) (by decide) (by decide) (by decide) (by decide) (by show X.env.scope.names.lookup _ = _; rw [hs]; rfl) (by show X.env.scope.names.lookup _ = _; rw [hs]; rfl) (by rw [hm]; exact z_divmod) (by rw [hm]; exact z_int)
  have DG__law_take : ∀ base : Heap, DefG P w K mg base G ct0 1 "_law_take" := fun base => defG_of (l := [(2, [], [Src.p 0, Src.p 1])]) fn__law_take g__law_take F__law_take.kp (FN__law_take base) (by kernel_rfl) (good_cons (good0 F__law_take rfl rfl fun _ _ _ _ _ _ us ws hu hw => match us, ws, hu, hw with | [_, _], [], _, _ => rfl) good_nil)
  have E__law_line : ∀ base : Heap, Env1 P w K mg base G ct0 0 C__law_line := fun base => ⟨(df_cons z_len (df_cons z_str df_nil)), df_nil, df_nil⟩
  have FN__law_line : ∀ base : Heap, FnG P w K mg base 1 (He.ga K "_law_line") fd__law_line ["line"] (spG K ct0 1 sp__law_line) := fun base => def_ok F__law_line (E__law_line base) sc__law_line rfl rfl ck__law_line law__law_line
  have DG__law_line : ∀ base : Heap, DefG P w K mg base G ct0 1 "_law_line" := fun base => defG_of (l := [(1, [], [Src.p 0])]) fn__law_line g__law_line F__law_line.kp (FN__law_line base) (by kernel_rfl) (good_cons (good0 F__law_line rfl rfl fun _ _ _ _ _ _ us ws hu hw => match us, ws, hu, hw with | [_], [], _, _ => rfl) good_nil)
  have E__law_seal : ∀ base : Heap, Env1 P w K mg base G ct0 0 C__law_seal := fun base => ⟨(df_cons z_int (df_cons z_len (df_cons z_ord (df_cons z_range df_nil)))), df_nil, df_nil⟩
  have FN__law_seal : ∀ base : Heap, FnG P w K mg base 1 (He.ga K "_law_seal") fd__law_seal ["said"] (spG K ct0 1 sp__law_seal) := fun base => def_ok F__law_seal (E__law_seal base) sc__law_seal rfl rfl ck__law_seal law__law_seal
  have DG__law_seal : ∀ base : Heap, DefG P w K mg base G ct0 1 "_law_seal" := fun base => defG_of (l := [(1, [], [Src.p 0])]) fn__law_seal g__law_seal F__law_seal.kp (FN__law_seal base) (by kernel_rfl) (good_cons (good0 F__law_seal rfl rfl fun _ _ _ _ _ _ us ws hu hw => match us, ws, hu, hw with | [_], [], _, _ => rfl) good_nil)
  have E__law_left : ∀ base : Heap, Env1 P w K mg base G ct0 0 C__law_left := fun base => ⟨(df_cons z_tuple df_nil), df_nil, df_nil⟩
  have FN__law_left : ∀ base : Heap, FnG P w K mg base 1 (He.ga K "_law_left") fd__law_left ["acts", "size", "torn_here"] (spG K ct0 3 sp__law_left) := fun base => def_ok F__law_left (E__law_left base) sc__law_left rfl rfl ck__law_left law__law_left
  have DG__law_left : ∀ base : Heap, DefG P w K mg base G ct0 1 "_law_left" := fun base => defG_of (l := [(3, [], [Src.p 0, Src.p 1, Src.p 2])]) fn__law_left g__law_left F__law_left.kp (FN__law_left base) (by kernel_rfl) (good_cons (good0 F__law_left rfl rfl fun _ _ _ _ _ _ us ws hu hw => match us, ws, hu, hw with | [_, _, _], [], _, _ => rfl) good_nil)
  have E_is_between : ∀ base : Heap, Env1 P w K mg base G ct0 1 C_is_between := fun base => ⟨df_nil, (df_cons ((DG_is_whole base).mono (by decide)) df_nil), df_nil⟩
  have FN_is_between : ∀ base : Heap, FnG P w K mg base 2 (He.ga K "is_between") fd_is_between ["value", "low", "high"] (spG K ct0 3 sp_is_between) := fun base => def_ok F_is_between (E_is_between base) sc_is_between rfl rfl ck_is_between law_is_between
  have DG_is_between : ∀ base : Heap, DefG P w K mg base G ct0 2 "is_between" := fun base => defG_of (l := [(3, [], [Src.p 0, Src.p 1, Src.p 2])]) fn_is_between g_is_between F_is_between.kp (FN_is_between base) (by kernel_rfl) (good_cons (good0 F_is_between rfl rfl fun _ _ _ _ _ _ us ws hu hw => match us, ws, hu, hw with | [_, _, _], [], _, _ => rfl) good_nil)
  have E_is_short_path : ∀ base : Heap, Env1 P w K mg base G ct0 1 C_is_short_path := fun base => ⟨(df_cons z_len df_nil), (df_cons ((DG_is_path base).mono (by decide)) df_nil), (df_cons c_MOST_SIGNS df_nil)⟩
  have FN_is_short_path : ∀ base : Heap, FnG P w K mg base 2 (He.ga K "is_short_path") fd_is_short_path ["value"] (spG K ct0 1 sp_is_short_path) := fun base => def_ok F_is_short_path (E_is_short_path base) sc_is_short_path rfl rfl ck_is_short_path law_is_short_path
  have DG_is_short_path : ∀ base : Heap, DefG P w K mg base G ct0 2 "is_short_path" := fun base => defG_of (l := [(1, [], [Src.p 0])]) fn_is_short_path g_is_short_path F_is_short_path.kp (FN_is_short_path base) (by kernel_rfl) (good_cons (good0 F_is_short_path rfl rfl fun _ _ _ _ _ _ us ws hu hw => match us, ws, hu, hw with | [_], [], _, _ => rfl) good_nil)
  have E_words_behind : ∀ base : Heap, Env1 P w K mg base G ct0 1 C_words_behind := fun base => ⟨(df_cons z_str df_nil), (df_cons ((DG_text_of base).mono (by decide)) df_nil), df_nil⟩
  have FN_words_behind : ∀ base : Heap, FnG P w K mg base 2 (He.ga K "words_behind") fd_words_behind ["event"] (spG K ct0 1 sp_words_behind) := fun base => def_ok F_words_behind (E_words_behind base) sc_words_behind rfl rfl ck_words_behind law_words_behind
  have DG_words_behind : ∀ base : Heap, DefG P w K mg base G ct0 2 "words_behind" := fun base => defG_of (l := [(1, [], [Src.p 0])]) fn_words_behind g_words_behind F_words_behind.kp (FN_words_behind base) (by kernel_rfl) (good_cons (good0 F_words_behind rfl rfl fun _ _ _ _ _ _ us ws hu hw => match us, ws, hu, hw with | [_], [], _, _ => rfl) good_nil)
  have E__law_one : ∀ base : Heap, Env1 P w K mg base G ct0 1 C__law_one := fun base => ⟨(df_cons z_len df_nil), (df_cons ((DG__law_take base).mono (by decide)) df_nil), df_nil⟩
  have FN__law_one : ∀ base : Heap, FnG P w K mg base 2 (He.ga K "_law_one") fd__law_one ["well", "some"] (spG K ct0 2 sp__law_one) := fun base => def_ok F__law_one (E__law_one base) sc__law_one rfl rfl ck__law_one law__law_one
  have DG__law_one : ∀ base : Heap, DefG P w K mg base G ct0 2 "_law_one" := fun base => defG_of (l := [(2, [], [Src.p 0, Src.p 1])]) fn__law_one g__law_one F__law_one.kp (FN__law_one base) (by kernel_rfl) (good_cons (good0 F__law_one rfl rfl fun _ _ _ _ _ _ us ws hu hw => match us, ws, hu, hw with | [_, _], [], _, _ => rfl) good_nil)
  have E__law_sealed : ∀ base : Heap, Env1 P w K mg base G ct0 1 C__law_sealed := fun base => ⟨(df_cons z_str df_nil), (df_cons ((DG__law_line base).mono (by decide)) (df_cons ((DG__law_seal base).mono (by decide)) df_nil)), df_nil⟩
  have FN__law_sealed : ∀ base : Heap, FnG P w K mg base 2 (He.ga K "_law_sealed") fd__law_sealed ["k", "line"] (spG K ct0 2 sp__law_sealed) := fun base => def_ok F__law_sealed (E__law_sealed base) sc__law_sealed rfl rfl ck__law_sealed law__law_sealed
  have DG__law_sealed : ∀ base : Heap, DefG P w K mg base G ct0 2 "_law_sealed" := fun base => defG_of (l := [(2, [], [Src.p 0, Src.p 1])]) fn__law_sealed g__law_sealed F__law_sealed.kp (FN__law_sealed base) (by kernel_rfl) (good_cons (good0 F__law_sealed rfl rfl fun _ _ _ _ _ _ us ws hu hw => match us, ws, hu, hw with | [_, _], [], _, _ => rfl) good_nil)
  have E_is_address : ∀ base : Heap, Env1 P w K mg base G ct0 2 C_is_address := fun base => ⟨df_nil, (df_cons ((DG_is_name base).mono (by decide)) (df_cons ((DG_is_short_path base).mono (by decide)) (df_cons ((DG_is_tuple_up_to base).mono (by decide)) df_nil))), df_nil⟩
  have FN_is_address : ∀ base : Heap, FnG P w K mg base 3 (He.ga K "is_address") fd_is_address ["value"] (spG K ct0 1 sp_is_address) := fun base => def_ok F_is_address (E_is_address base) sc_is_address rfl rfl ck_is_address law_is_address
  have DG_is_address : ∀ base : Heap, DefG P w K mg base G ct0 3 "is_address" := fun base => defG_of (l := [(1, [], [Src.p 0])]) fn_is_address g_is_address F_is_address.kp (FN_is_address base) (by kernel_rfl) (good_cons (good0 F_is_address rfl rfl fun _ _ _ _ _ _ us ws hu hw => match us, ws, hu, hw with | [_], [], _, _ => rfl) good_nil)
  have E_check_number : ∀ base : Heap, Env1 P w K mg base G ct0 2 C_check_number := fun base => ⟨df_nil, (df_cons ((DG_is_between base).mono (by decide)) df_nil), df_nil⟩
  have FN_check_number : ∀ base : Heap, FnG P w K mg base 3 (He.ga K "check_number") fd_check_number ["value", "low", "high"] (spG K ct0 3 sp_check_number) := fun base => def_ok F_check_number (E_check_number base) sc_check_number rfl rfl ck_check_number law_check_number
  have DG_check_number : ∀ base : Heap, DefG P w K mg base G ct0 3 "check_number" := fun base => defG_of (l := [(3, [], [Src.p 0, Src.p 1, Src.p 2])]) fn_check_number g_check_number F_check_number.kp (FN_check_number base) (by kernel_rfl) (good_cons (good0 F_check_number rfl rfl fun _ _ _ _ _ _ us ws hu hw => match us, ws, hu, hw with | [_, _, _], [], _, _ => rfl) good_nil)
  have E_is_moment : ∀ base : Heap, Env1 P w K mg base G ct0 2 C_is_moment := fun base => ⟨df_nil, (df_cons ((DG_is_between base).mono (by decide)) df_nil), (df_cons c_MOST_MOMENT df_nil)⟩
  have FN_is_moment : ∀ base : Heap, FnG P w K mg base 3 (He.ga K "is_moment") fd_is_moment ["value"] (spG K ct0 1 sp_is_moment) := fun base => def_ok F_is_moment (E_is_moment base) sc_is_moment rfl rfl ck_is_moment law_is_moment
  have DG_is_moment : ∀ base : Heap, DefG P w K mg base G ct0 3 "is_moment" := fun base => defG_of (l := [(1, [], [Src.p 0])]) fn_is_moment g_is_moment F_is_moment.kp (FN_is_moment base) (by kernel_rfl) (good_cons (good0 F_is_moment rfl rfl fun _ _ _ _ _ _ us ws hu hw => match us, ws, hu, hw with | [_], [], _, _ => rfl) good_nil)
  have E_line_of : ∀ base : Heap, Env1 P w K mg base G ct0 2 C_line_of := fun base => ⟨(df_cons z_str df_nil), (df_cons ((DG_text_of base).mono (by decide)) (df_cons ((DG_words_behind base).mono (by decide)) df_nil)), df_nil⟩
  have FN_line_of : ∀ base : Heap, FnG P w K mg base 3 (He.ga K "line_of") fd_line_of ["row"] (spG K ct0 1 sp_line_of) := fun base => def_ok F_line_of (E_line_of base) sc_line_of rfl rfl ck_line_of law_line_of
  have DG_line_of : ∀ base : Heap, DefG P w K mg base G ct0 3 "line_of" := fun base => defG_of (l := [(1, [], [Src.p 0])]) fn_line_of g_line_of F_line_of.kp (FN_line_of base) (by kernel_rfl) (good_cons (good0 F_line_of rfl rfl fun _ _ _ _ _ _ us ws hu hw => match us, ws, hu, hw with | [_], [], _, _ => rfl) good_nil)
  have E__law_name : ∀ base : Heap, Env1 P w K mg base G ct0 2 C__law_name := fun base => ⟨(df_cons z_range df_nil), (df_cons ((DG__law_one base).mono (by decide)) df_nil), df_nil⟩
  have FN__law_name : ∀ base : Heap, FnG P w K mg base 3 (He.ga K "_law_name") fd__law_name ["well"] (spG K ct0 1 sp__law_name) := fun base => def_ok F__law_name (E__law_name base) sc__law_name rfl rfl ck__law_name law__law_name
  have DG__law_name : ∀ base : Heap, DefG P w K mg base G ct0 3 "_law_name" := fun base => defG_of (l := [(1, [], [Src.p 0])]) fn__law_name g__law_name F__law_name.kp (FN__law_name base) (by kernel_rfl) (good_cons (good0 F__law_name rfl rfl fun _ _ _ _ _ _ us ws hu hw => match us, ws, hu, hw with | [_], [], _, _ => rfl) good_nil)
  have E__law_path : ∀ base : Heap, Env1 P w K mg base G ct0 2 C__law_path := fun base => ⟨(df_cons z_range df_nil), (df_cons ((DG__law_one base).mono (by decide)) (df_cons ((DG__law_take base).mono (by decide)) df_nil)), df_nil⟩
  have FN__law_path : ∀ base : Heap, FnG P w K mg base 3 (He.ga K "_law_path") fd__law_path ["well"] (spG K ct0 1 sp__law_path) := fun base => def_ok F__law_path (E__law_path base) sc__law_path rfl rfl ck__law_path law__law_path
  have DG__law_path : ∀ base : Heap, DefG P w K mg base G ct0 3 "_law_path" := fun base => defG_of (l := [(1, [], [Src.p 0])]) fn__law_path g__law_path F__law_path.kp (FN__law_path base) (by kernel_rfl) (good_cons (good0 F__law_path rfl rfl fun _ _ _ _ _ _ us ws hu hw => match us, ws, hu, hw with | [_], [], _, _ => rfl) good_nil)
  have E__law_answer : ∀ base : Heap, Env1 P w K mg base G ct0 2 C__law_answer := fun base => ⟨(df_cons z_range (df_cons z_tuple df_nil)), (df_cons ((DG__law_one base).mono (by decide)) (df_cons ((DG__law_take base).mono (by decide)) df_nil)), df_nil⟩
  have FN__law_answer : ∀ base : Heap, FnG P w K mg base 3 (He.ga K "_law_answer") fd__law_answer ["well", "spots"] (spG K ct0 2 sp__law_answer) := fun base => def_ok F__law_answer (E__law_answer base) sc__law_answer rfl rfl ck__law_answer law__law_answer
  have DG__law_answer : ∀ base : Heap, DefG P w K mg base G ct0 3 "_law_answer" := fun base => defG_of (l := [(2, [], [Src.p 0, Src.p 1])]) fn__law_answer g__law_answer F__law_answer.kp (FN__law_answer base) (by kernel_rfl) (good_cons (good0 F__law_answer rfl rfl fun _ _ _ _ _ _ us ws hu hw => match us, ws, hu, hw with | [_, _], [], _, _ => rfl) good_nil)
  have E__law_deeds : ∀ base : Heap, Env1 P w K mg base G ct0 2 C__law_deeds := fun base => ⟨(df_cons z_len (df_cons z_range df_nil)), (df_cons ((DG__law_sealed base).mono (by decide)) df_nil), df_nil⟩
  have FN__law_deeds : ∀ base : Heap, FnG P w K mg base 3 (He.ga K "_law_deeds") fd__law_deeds ["book"] (spG K ct0 1 sp__law_deeds) := fun base => def_ok F__law_deeds (E__law_deeds base) sc__law_deeds rfl rfl ck__law_deeds law__law_deeds
  have DG__law_deeds : ∀ base : Heap, DefG P w K mg base G ct0 3 "_law_deeds" := fun base => defG_of (l := [(1, [], [Src.p 0])]) fn__law_deeds g__law_deeds F__law_deeds.kp (FN__law_deeds base) (by kernel_rfl) (good_cons (good0 F__law_deeds rfl rfl fun _ _ _ _ _ _ us ws hu hw => match us, ws, hu, hw with | [_], [], _, _ => rfl) good_nil)
  have E_address_in : ∀ base : Heap, Env1 P w K mg base G ct0 3 C_address_in := fun base => ⟨df_nil, (df_cons ((DG_is_address base).mono (by decide)) df_nil), df_nil⟩
  have FN_address_in : ∀ base : Heap, FnG P w K mg base 4 (He.ga K "address_in") fd_address_in ["text"] (spG K ct0 1 sp_address_in) := fun base => def_ok F_address_in (E_address_in base) sc_address_in rfl rfl ck_address_in law_address_in
  have DG_address_in : ∀ base : Heap, DefG P w K mg base G ct0 4 "address_in" := fun base => defG_of (l := [(1, [], [Src.p 0])]) fn_address_in g_address_in F_address_in.kp (FN_address_in base) (by kernel_rfl) (good_cons (good0 F_address_in rfl rfl fun _ _ _ _ _ _ us ws hu hw => match us, ws, hu, hw with | [_], [], _, _ => rfl) good_nil)
  have E_are_links : ∀ base : Heap, Env1 P w K mg base G ct0 3 C_are_links := fun base => ⟨(df_cons z_all df_nil), (df_cons ((DG_is_address base).mono (by decide)) (df_cons ((DG_is_tuple_up_to base).mono (by decide)) df_nil)), (df_cons c_MOST_LINKS df_nil)⟩
  have FN_are_links : ∀ base : Heap, FnG P w K mg base 4 (He.ga K "are_links") fd_are_links ["value"] (spG K ct0 1 sp_are_links) := fun base => def_ok F_are_links (E_are_links base) sc_are_links rfl rfl ck_are_links law_are_links
  have DG_are_links : ∀ base : Heap, DefG P w K mg base G ct0 4 "are_links" := fun base => defG_of (l := [(1, [], [Src.p 0])]) fn_are_links g_are_links F_are_links.kp (FN_are_links base) (by kernel_rfl) (good_cons (good0 F_are_links rfl rfl fun _ _ _ _ _ _ us ws hu hw => match us, ws, hu, hw with | [_], [], _, _ => rfl) good_nil)
  have E_journal_line : ∀ base : Heap, Env1 P w K mg base G ct0 3 C_journal_line := fun base => ⟨df_nil, (df_cons ((DG_line_of base).mono (by decide)) (df_cons ((DG_seal_in base).mono (by decide)) df_nil)), df_nil⟩
  have FN_journal_line : ∀ base : Heap, FnG P w K mg base 4 (He.ga K "journal_line") fd_journal_line ["index", "row"] (spG K ct0 2 sp_journal_line) := fun base => def_ok F_journal_line (E_journal_line base) sc_journal_line rfl rfl ck_journal_line law_journal_line
  have DG_journal_line : ∀ base : Heap, DefG P w K mg base G ct0 4 "journal_line" := fun base => defG_of (l := [(2, [], [Src.p 0, Src.p 1])]) fn_journal_line g_journal_line F_journal_line.kp (FN_journal_line base) (by kernel_rfl) (good_cons (good0 F_journal_line rfl rfl fun _ _ _ _ _ _ us ws hu hw => match us, ws, hu, hw with | [_, _], [], _, _ => rfl) good_nil)
  have E_is_deed : ∀ base : Heap, Env1 P w K mg base G ct0 3 C_is_deed := fun base => ⟨(df_cons z_isinstance (df_cons z_len (df_cons z_str df_nil))), (df_cons ((DG_is_address base).mono (by decide)) (df_cons ((DG_is_moment base).mono (by decide)) (df_cons ((DG_is_tuple_up_to base).mono (by decide)) df_nil))), df_nil⟩
  have FN_is_deed : ∀ base : Heap, FnG P w K mg base 4 (He.ga K "is_deed") fd_is_deed ["value"] (spG K ct0 1 sp_is_deed) := fun base => def_ok F_is_deed (E_is_deed base) sc_is_deed rfl rfl ck_is_deed law_is_deed
  have DG_is_deed : ∀ base : Heap, DefG P w K mg base G ct0 4 "is_deed" := fun base => defG_of (l := [(1, [], [Src.p 0])]) fn_is_deed g_is_deed F_is_deed.kp (FN_is_deed base) (by kernel_rfl) (good_cons (good0 F_is_deed rfl rfl fun _ _ _ _ _ _ us ws hu hw => match us, ws, hu, hw with | [_], [], _, _ => rfl) good_nil)
  have E__law_spots : ∀ base : Heap, Env1 P w K mg base G ct0 3 C__law_spots := fun base => ⟨(df_cons z_range df_nil), (df_cons ((DG__law_one base).mono (by decide)) (df_cons ((DG__law_path base).mono (by decide)) (df_cons ((DG__law_take base).mono (by decide)) df_nil))), df_nil⟩
  have FN__law_spots : ∀ base : Heap, FnG P w K mg base 4 (He.ga K "_law_spots") fd__law_spots ["well", "homes"] (spG K ct0 2 sp__law_spots) := fun base => def_ok F__law_spots (E__law_spots base) sc__law_spots rfl rfl ck__law_spots law__law_spots
  have DG__law_spots : ∀ base : Heap, DefG P w K mg base G ct0 4 "_law_spots" := fun base => defG_of (l := [(2, [], [Src.p 0, Src.p 1])]) fn__law_spots g__law_spots F__law_spots.kp (FN__law_spots base) (by kernel_rfl) (good_cons (good0 F__law_spots rfl rfl fun _ _ _ _ _ _ us ws hu hw => match us, ws, hu, hw with | [_, _], [], _, _ => rfl) good_nil)
  have E__law_loose_rows : ∀ base : Heap, Env1 P w K mg base G ct0 3 C__law_loose_rows := fun base => ⟨(df_cons z_range (df_cons z_tuple df_nil)), (df_cons ((DG__law_answer base).mono (by decide)) (df_cons ((DG__law_one base).mono (by decide)) (df_cons ((DG__law_take base).mono (by decide)) df_nil))), df_nil⟩
  have FN__law_loose_rows : ∀ base : Heap, FnG P w K mg base 4 (He.ga K "_law_loose_rows") fd__law_loose_rows ["well", "spots", "size"] (spG K ct0 3 sp__law_loose_rows) := fun base => def_ok F__law_loose_rows (E__law_loose_rows base) sc__law_loose_rows rfl rfl ck__law_loose_rows law__law_loose_rows
  have DG__law_loose_rows : ∀ base : Heap, DefG P w K mg base G ct0 4 "_law_loose_rows" := fun base => defG_of (l := [(3, [], [Src.p 0, Src.p 1, Src.p 2])]) fn__law_loose_rows g__law_loose_rows F__law_loose_rows.kp (FN__law_loose_rows base) (by kernel_rfl) (good_cons (good0 F__law_loose_rows rfl rfl fun _ _ _ _ _ _ us ws hu hw => match us, ws, hu, hw with | [_, _, _], [], _, _ => rfl) good_nil)
  have E_is_some_answer : ∀ base : Heap, Env1 P w K mg base G ct0 4 C_is_some_answer := fun base => ⟨(df_cons z_isinstance (df_cons z_len (df_cons z_str df_nil))), (df_cons ((DG_are_links base).mono (by decide)) (df_cons ((DG_is_address base).mono (by decide)) (df_cons ((DG_is_between base).mono (by decide)) (df_cons ((DG_is_tuple_up_to base).mono (by decide)) df_nil)))), (df_cons c_MOST_MARK df_nil)⟩
  have FN_is_some_answer : ∀ base : Heap, FnG P w K mg base 5 (He.ga K "is_some_answer") fd_is_some_answer ["value"] (spG K ct0 1 sp_is_some_answer) := fun base => def_ok F_is_some_answer (E_is_some_answer base) sc_is_some_answer rfl rfl ck_is_some_answer law_is_some_answer
  have DG_is_some_answer : ∀ base : Heap, DefG P w K mg base G ct0 5 "is_some_answer" := fun base => defG_of (l := [(1, [], [Src.p 0])]) fn_is_some_answer g_is_some_answer F_is_some_answer.kp (FN_is_some_answer base) (by kernel_rfl) (good_cons (good0 F_is_some_answer rfl rfl fun _ _ _ _ _ _ us ws hu hw => match us, ws, hu, hw with | [_], [], _, _ => rfl) good_nil)
  have E_behind : ∀ base : Heap, Env1 P w K mg base G ct0 4 C_behind := fun base => ⟨(df_cons z_enumerate (df_cons z_isinstance (df_cons z_len (df_cons z_max (df_cons z_tuple df_nil))))), (df_cons ((DG_check_number base).mono (by decide)) (df_cons ((DG_is_deed base).mono (by decide)) df_nil)), df_nil⟩
  have FN_behind : ∀ base : Heap, FnG P w K mg base 5 (He.ga K "behind") fd_behind ["deeds", "many", "torn"] (spG K ct0 3 sp_behind) := fun base => def_ok F_behind (E_behind base) sc_behind rfl rfl ck_behind law_behind
  have DG_behind : ∀ base : Heap, DefG P w K mg base G ct0 5 "behind" := fun base => defG_of (l := [(0, ["many", "deeds"], [Src.k 1, Src.k 0, Src.c 0 (.int 0)]), (0, ["torn", "deeds", "many"], [Src.k 1, Src.k 2, Src.k 0]), (2, [], [Src.p 0, Src.p 1, Src.c 0 (.int 0)]), (3, [], [Src.p 0, Src.p 1, Src.p 2])]) fn_behind g_behind F_behind.kp (FN_behind base) (by kernel_rfl) (good_cons (goodDf F_behind (by simp [He.DefD.dvs, d_behind]) rfl (by simp [dvOf, cLits, Lit.v, He.DefD.dvs, d_behind, He.Dv.v]) fun _ _ _ _ _ _ _ us ws its hu hw hi => match us, ws, its, hu, hw, hi with | [], [_, _], [_], _, _, _ => ⟨_, rfl, rfl⟩) (good_cons (goodDf F_behind (by simp [He.DefD.dvs, d_behind]) rfl (by simp [dvOf, cLits, Lit.v, He.DefD.dvs, d_behind, He.Dv.v]) fun _ _ _ _ _ _ _ us ws its hu hw hi => match us, ws, its, hu, hw, hi with | [], [_, _, _], [_], _, _, _ => ⟨_, rfl, rfl⟩) (good_cons (goodDf F_behind (by simp [He.DefD.dvs, d_behind]) rfl (by simp [dvOf, cLits, Lit.v, He.DefD.dvs, d_behind, He.Dv.v]) fun _ _ _ _ _ _ _ us ws its hu hw hi => match us, ws, its, hu, hw, hi with | [_, _], [], [_], _, _, _ => ⟨_, rfl, rfl⟩) (good_cons (goodDf F_behind (by simp [He.DefD.dvs, d_behind]) rfl (by simp [dvOf, cLits, Lit.v, He.DefD.dvs, d_behind, He.Dv.v]) fun _ _ _ _ _ _ _ us ws its hu hw hi => match us, ws, its, hu, hw, hi with | [_, _, _], [], [_], _, _, _ => ⟨_, rfl, rfl⟩) good_nil))))
  have E_answer_of : ∀ base : Heap, Env1 P w K mg base G ct0 5 C_answer_of := fun base => ⟨(df_cons z_int (df_cons z_len (df_cons z_tuple df_nil))), (df_cons ((DG_address_in base).mono (by decide)) (df_cons ((DG_is_numeral base).mono (by decide)) (df_cons ((DG_is_some_answer base).mono (by decide)) df_nil))), (df_cons c_MOST_LINKS df_nil)⟩
  have FN_answer_of : ∀ base : Heap, FnG P w K mg base 6 (He.ga K "answer_of") fd_answer_of ["words"] (spG K ct0 1 sp_answer_of) := fun base => def_ok F_answer_of (E_answer_of base) sc_answer_of rfl rfl ck_answer_of law_answer_of
  have DG_answer_of : ∀ base : Heap, DefG P w K mg base G ct0 6 "answer_of" := fun base => defG_of (l := [(1, [], [Src.p 0])]) fn_answer_of g_answer_of F_answer_of.kp (FN_answer_of base) (by kernel_rfl) (good_cons (good0 F_answer_of rfl rfl fun _ _ _ _ _ _ us ws hu hw => match us, ws, hu, hw with | [_], [], _, _ => rfl) good_nil)
  have E_is_some_event : ∀ base : Heap, Env1 P w K mg base G ct0 5 C_is_some_event := fun base => ⟨(df_cons z_isinstance (df_cons z_len (df_cons z_str df_nil))), (df_cons ((DG_is_some_answer base).mono (by decide)) (df_cons ((DG_is_tuple_up_to base).mono (by decide)) df_nil)), df_nil⟩
  have FN_is_some_event : ∀ base : Heap, FnG P w K mg base 6 (He.ga K "is_some_event") fd_is_some_event ["value"] (spG K ct0 1 sp_is_some_event) := fun base => def_ok F_is_some_event (E_is_some_event base) sc_is_some_event rfl rfl ck_is_some_event law_is_some_event
  have DG_is_some_event : ∀ base : Heap, DefG P w K mg base G ct0 6 "is_some_event" := fun base => defG_of (l := [(1, [], [Src.p 0])]) fn_is_some_event g_is_some_event F_is_some_event.kp (FN_is_some_event base) (by kernel_rfl) (good_cons (good0 F_is_some_event rfl rfl fun _ _ _ _ _ _ us ws hu hw => match us, ws, hu, hw with | [_], [], _, _ => rfl) good_nil)
  have E_event_of : ∀ base : Heap, Env1 P w K mg base G ct0 6 C_event_of := fun base => ⟨(df_cons z_len df_nil), (df_cons ((DG_answer_of base).mono (by decide)) df_nil), df_nil⟩
  have FN_event_of : ∀ base : Heap, FnG P w K mg base 7 (He.ga K "event_of") fd_event_of ["words"] (spG K ct0 1 sp_event_of) := fun base => def_ok F_event_of (E_event_of base) sc_event_of rfl rfl ck_event_of law_event_of
  have DG_event_of : ∀ base : Heap, DefG P w K mg base G ct0 7 "event_of" := fun base => defG_of (l := [(1, [], [Src.p 0])]) fn_event_of g_event_of F_event_of.kp (FN_event_of base) (by kernel_rfl) (good_cons (good0 F_event_of rfl rfl fun _ _ _ _ _ _ us ws hu hw => match us, ws, hu, hw with | [_], [], _, _ => rfl) good_nil)
  have E_is_some_row : ∀ base : Heap, Env1 P w K mg base G ct0 6 C_is_some_row := fun base => ⟨df_nil, (df_cons ((DG_is_address base).mono (by decide)) (df_cons ((DG_is_moment base).mono (by decide)) (df_cons ((DG_is_some_event base).mono (by decide)) (df_cons ((DG_is_tuple_up_to base).mono (by decide)) df_nil)))), df_nil⟩
  have FN_is_some_row : ∀ base : Heap, FnG P w K mg base 7 (He.ga K "is_some_row") fd_is_some_row ["value"] (spG K ct0 1 sp_is_some_row) := fun base => def_ok F_is_some_row (E_is_some_row base) sc_is_some_row rfl rfl ck_is_some_row law_is_some_row
  have DG_is_some_row : ∀ base : Heap, DefG P w K mg base G ct0 7 "is_some_row" := fun base => defG_of (l := [(1, [], [Src.p 0])]) fn_is_some_row g_is_some_row F_is_some_row.kp (FN_is_some_row base) (by kernel_rfl) (good_cons (good0 F_is_some_row rfl rfl fun _ _ _ _ _ _ us ws hu hw => match us, ws, hu, hw with | [_], [], _, _ => rfl) good_nil)
  have E_check_log : ∀ base : Heap, Env1 P w K mg base G ct0 7 C_check_log := fun base => ⟨(df_cons z_enumerate (df_cons z_isinstance (df_cons z_tuple df_nil))), (df_cons ((DG_is_some_row base).mono (by decide)) df_nil), df_nil⟩
  have FN_check_log : ∀ base : Heap, FnG P w K mg base 8 (He.ga K "check_log") fd_check_log ["value"] (spG K ct0 1 sp_check_log) := fun base => def_ok F_check_log (E_check_log base) sc_check_log rfl rfl ck_check_log law_check_log
  have DG_check_log : ∀ base : Heap, DefG P w K mg base G ct0 8 "check_log" := fun base => defG_of (l := [(1, [], [Src.p 0])]) fn_check_log g_check_log F_check_log.kp (FN_check_log base) (by kernel_rfl) (good_cons (good0 F_check_log rfl rfl fun _ _ _ _ _ _ us ws hu hw => match us, ws, hu, hw with | [_], [], _, _ => rfl) good_nil)
  have E_row_in : ∀ base : Heap, Env1 P w K mg base G ct0 7 C_row_in := fun base => ⟨(df_cons z_int (df_cons z_len df_nil)), (df_cons ((DG_address_in base).mono (by decide)) (df_cons ((DG_event_of base).mono (by decide)) (df_cons ((DG_is_numeral base).mono (by decide)) df_nil))), df_nil⟩
  have FN_row_in : ∀ base : Heap, FnG P w K mg base 8 (He.ga K "row_in") fd_row_in ["text"] (spG K ct0 1 sp_row_in) := fun base => def_ok F_row_in (E_row_in base) sc_row_in rfl rfl ck_row_in law_row_in
  have DG_row_in : ∀ base : Heap, DefG P w K mg base G ct0 8 "row_in" := fun base => defG_of (l := [(1, [], [Src.p 0])]) fn_row_in g_row_in F_row_in.kp (FN_row_in base) (by kernel_rfl) (good_cons (good0 F_row_in rfl rfl fun _ _ _ _ _ _ us ws hu hw => match us, ws, hu, hw with | [_], [], _, _ => rfl) good_nil)
  have E_row_at : ∀ base : Heap, Env1 P w K mg base G ct0 8 C_row_at := fun base => ⟨(df_cons z_str df_nil), (df_cons ((DG_row_in base).mono (by decide)) (df_cons ((DG_seal_in base).mono (by decide)) df_nil)), df_nil⟩
  have FN_row_at : ∀ base : Heap, FnG P w K mg base 9 (He.ga K "row_at") fd_row_at ["line", "index"] (spG K ct0 2 sp_row_at) := fun base => def_ok F_row_at (E_row_at base) sc_row_at rfl rfl ck_row_at law_row_at
  have DG_row_at : ∀ base : Heap, DefG P w K mg base G ct0 9 "row_at" := fun base => defG_of (l := [(2, [], [Src.p 0, Src.p 1])]) fn_row_at g_row_at F_row_at.kp (FN_row_at base) (by kernel_rfl) (good_cons (good0 F_row_at rfl rfl fun _ _ _ _ _ _ us ws hu hw => match us, ws, hu, hw with | [_, _], [], _, _ => rfl) good_nil)
  have E_deeds_of : ∀ base : Heap, Env1 P w K mg base G ct0 8 C_deeds_of := fun base => ⟨(df_cons z_enumerate (df_cons z_tuple df_nil)), (df_cons ((DG_check_log base).mono (by decide)) (df_cons ((DG_journal_line base).mono (by decide)) df_nil)), (df_cons c_ASK df_nil)⟩
  have FN_deeds_of : ∀ base : Heap, FnG P w K mg base 9 (He.ga K "deeds_of") fd_deeds_of ["log"] (spG K ct0 1 sp_deeds_of) := fun base => def_ok F_deeds_of (E_deeds_of base) sc_deeds_of rfl rfl ck_deeds_of law_deeds_of
  have DG_deeds_of : ∀ base : Heap, DefG P w K mg base G ct0 9 "deeds_of" := fun base => defG_of (l := [(0, ["log"], [Src.k 0]), (1, [], [Src.p 0])]) fn_deeds_of g_deeds_of F_deeds_of.kp (FN_deeds_of base) (by kernel_rfl) (good_cons (good0 F_deeds_of rfl rfl fun _ _ _ _ _ _ us ws hu hw => match us, ws, hu, hw with | [], [_], _, _ => rfl) (good_cons (good0 F_deeds_of rfl rfl fun _ _ _ _ _ _ us ws hu hw => match us, ws, hu, hw with | [_], [], _, _ => rfl) good_nil))
  have E_read_journal : ∀ base : Heap, Env1 P w K mg base G ct0 9 C_read_journal := fun base => ⟨(df_cons z_isinstance (df_cons z_len (df_cons z_range (df_cons z_str (df_cons z_tuple df_nil))))), (df_cons ((DG_row_at base).mono (by decide)) df_nil), df_nil⟩
  have FN_read_journal : ∀ base : Heap, FnG P w K mg base 10 (He.ga K "read_journal") fd_read_journal ["text"] (spG K ct0 1 sp_read_journal) := fun base => def_ok F_read_journal (E_read_journal base) sc_read_journal rfl rfl ck_read_journal law_read_journal
  have DG_read_journal : ∀ base : Heap, DefG P w K mg base G ct0 10 "read_journal" := fun base => defG_of (l := [(1, [], [Src.p 0])]) fn_read_journal g_read_journal F_read_journal.kp (FN_read_journal base) (by kernel_rfl) (good_cons (good0 F_read_journal rfl rfl fun _ _ _ _ _ _ us ws hu hw => match us, ws, hu, hw with | [_], [], _, _ => rfl) good_nil)
  have E__law_is_kept : ∀ base : Heap, Env1 P w K mg base G ct0 10 C__law_is_kept := fun base => ⟨(df_cons z_isinstance (df_cons z_len (df_cons z_list (df_cons z_repr (df_cons z_tuple df_nil))))), (df_cons ((DG_read_journal base).mono (by decide)) df_nil), df_nil⟩
  have FN__law_is_kept : ∀ base : Heap, FnG P w K mg base 11 (He.ga K "_law_is_kept") fd__law_is_kept ["book", "told"] (spG K ct0 2 sp__law_is_kept) := fun base => def_ok F__law_is_kept (E__law_is_kept base) sc__law_is_kept rfl rfl ck__law_is_kept law__law_is_kept
  have DG__law_is_kept : ∀ base : Heap, DefG P w K mg base G ct0 11 "_law_is_kept" := fun base => defG_of (l := [(2, [], [Src.p 0, Src.p 1])]) fn__law_is_kept g__law_is_kept F__law_is_kept.kp (FN__law_is_kept base) (by kernel_rfl) (good_cons (good0 F__law_is_kept rfl rfl fun _ _ _ _ _ _ us ws hu hw => match us, ws, hu, hw with | [_, _], [], _, _ => rfl) good_nil)
  have E__law_right : ∀ base : Heap, Env1 P w K mg base G ct0 11 C__law_right := fun base => ⟨(df_cons z_len (df_cons z_range (df_cons z_repr (df_cons z_tuple df_nil)))), (df_cons ((DG__law_deeds base).mono (by decide)) (df_cons ((DG__law_is_kept base).mono (by decide)) (df_cons ((DG__law_left base).mono (by decide)) (df_cons ((DG__law_loose_rows base).mono (by decide)) (df_cons ((DG__law_name base).mono (by decide)) (df_cons ((DG__law_one base).mono (by decide)) (df_cons ((DG__law_spots base).mono (by decide)) (df_cons ((DG__law_take base).mono (by decide)) (df_cons ((DG_behind base).mono (by decide)) (df_cons ((DG_deeds_of base).mono (by decide)) df_nil)))))))))), df_nil⟩
  have FN__law_right : ∀ base : Heap, FnG P w K mg base 12 (He.ga K "_law_right") fd__law_right ["well"] (spG K ct0 1 sp__law_right) := fun base => def_ok F__law_right (E__law_right base) sc__law_right rfl rfl ck__law_right law__law_right
  have DG__law_right : ∀ base : Heap, DefG P w K mg base G ct0 12 "_law_right" := fun base => defG_of (l := [(1, [], [Src.p 0])]) fn__law_right g__law_right F__law_right.kp (FN__law_right base) (by kernel_rfl) (good_cons (good0 F__law_right rfl rfl fun _ _ _ _ _ _ us ws hu hw => match us, ws, hu, hw with | [_], [], _, _ => rfl) good_nil)
  have E_law : ∀ base : Heap, Env1 P w K mg base G ct0 12 C_law := fun base => ⟨(df_cons z_all (df_cons z_len (df_cons z_max (df_cons z_min (df_cons z_range df_nil))))), (df_cons ((DG__law_right base).mono (by decide)) (df_cons ((DG__law_well base).mono (by decide)) df_nil)), df_nil⟩
  have FN_law : ∀ base : Heap, FnG P w K mg base 13 (He.ga K "law") fd_law ["script"] (spG K ct0 1 sp_law) := fun base => def_ok F_law (E_law base) sc_law rfl rfl ck_law law_law
  exact ⟨fd_law, fun s v => FunD.bindsA (ps := ["script"]) F_law (fun _ _ _ _ _ _ us hl => match us, hl with | [_], _ => rfl) s [v] rfl, g_law, FN_law⟩
end
end K47
open PySem PySem.W PySem.Calls PyProof.Rows in
set_option maxRecDepth 100000 in
set_option maxHeartbeats 0 in
theorem PySem.Challenge.cw_freshrounds_k47_whole_deeds_and_cuts_at_holds : PySem.Challenge.rw_freshrounds_k47_whole_deeds_and_cuts_at.Holds := by
  w_on; o_law
  refine HandSHeadRun.head_any (r := OpenLaw.row PySem.Challenge.rw_freshrounds_k47_whole_deeds_and_cuts_at) (q := view (OpenLaw.row PySem.Challenge.rw_freshrounds_k47_whole_deeds_and_cuts_at).prog [70]) (H := K47.hk) (ob := K47.ob) (M := 4000) (loose := K47.looseL) (d := HandSHeadRun.topDef (OpenLaw.row PySem.Challenge.rw_freshrounds_k47_whole_deeds_and_cuts_at).prog 70) (kwd := []) K47.ob_eq
    (by kernel_rfl) (fun s => by kernel_rfl) K47.run (by kernel_rfl) (by kernel_rfl) (by kernel_rfl) (by rfl) (by first | assumption | decide +kernel) (by decide +kernel) ⟨rfl, rfl, rfl, rfl, rfl, by decide +kernel⟩ ?hw ?hc
  case hw => w_witness2
  case hc =>
    refine FR.walk_ofG (l := PySem.Challenge.rw_freshrounds_k47_whole_deeds_and_cuts_at) (n := 63) (k := 13) (x := "script") rfl (by decide) (by kernel_rfl) ⟨rfl, by decide, by decide⟩ ?F
    intro w mg fa h Y Gn hmg0
    obtain ⟨K, KX, c⟩ := Y
    have hmg : mg ("law" : PySem.Str) = some (.ref fa) := by
      have e : (HandSHeadRun.topDef (OpenLaw.row PySem.Challenge.rw_freshrounds_k47_whole_deeds_and_cuts_at).prog 70).name = ("law" : PySem.Str) := by kernel_rfl
      rw [← e]
      exact hmg0
    obtain ⟨fd, hb, hm, hF⟩ := K47.all_ok (P := (PySem.Challenge.rw_freshrounds_k47_whole_deeds_and_cuts_at).prog) (w := w) KX Gn c
    have e := hmg.symm.trans hm
    cases e
    refine ⟨K, fd, _, KX, hb, fun H a ns hl hS => ?_, fun base _ _ => hF base⟩
    exact FR.law_start hS (K47.law_go ns hl)
