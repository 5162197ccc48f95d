import PyProof.Rows.All
import Wide.All
import OpenK.AllK
import Wide.FinOn
import HandS.ForMost
import HandS.Exc
import HandS.ExcOwn
import HandS.ExcInit
import HandS.WordsExc
import HandS.TryOnly
import HandS.Evl
import HandS.Wide
import HandS.Walk
import HandS.TupAny
import HandS.TupMul
import HandS.IsInst
import KE.GoesEnum
import HandS.Iter
import KE.GoesZip
import HandS.TupLe
import HandS.ExcField
import HandS.Style
import HandS.Defaults
import HandS.Text
import HandS.Strs
import KE.KRevSl
import PySem.Challenge.RW_sparehouses_k43_slots
set_option Elab.async false
set_option linter.all false
set_option maxRecDepth 100000
set_option maxHeartbeats 4000000
/-! Kd0: data without a heap: values D, what represents them (Rep), the store of what may change (Sto), the judgements over HandS. -/
namespace KD
open PySem PySem.Spec PyProof.Rows L2
abbrev Ex := Evl.Ex

inductive D where
  | non | bl (b : Bool) | int (i : Int) | str (x : Str)
  | lst (xs : List D) | tup (xs : List D)
  | dic (kvs : List (Key × D))
  | ref (a : Addr)
  | scr (ns : List Int)
  | ty (n : String)

/-- a tuple that is tracked, or written by the module -/
def TupG (K : PySem.W.Frag) (G : Hp) (a : Addr) (vs : List V) : Prop :=
  G a = some (.tup vs) ∨ ∃ (o : Obj) (its : Array Value) (n : Nat), K.lookup a = some o ∧ o.cls = .type "tuple" ∧ o.data = .seq its n ∧ its.size ≤ sizeLine ∧ Vals vs its.toList
theorem TupG.sq {K : PySem.W.Frag} {G : Hp} {a : Addr} {vs : List V} (h : TupG K G a vs) : SqT K G a vs := by
  rcases h with h | h
  · exact .of h
  · exact .inr h
theorem TupG.mono {K : PySem.W.Frag} {G G' : Hp} {a : Addr} {vs : List V} (e : Ex G G') (h : TupG K G a vs) : TupG K G' a vs := by
  rcases h with h | h
  · exact .inl (e _ _ h)
  · exact .inr h

mutual
inductive Rep (K : PySem.W.Frag) (G : Hp) : V → D → Prop
  | non : Rep K G .non .non
  | bl (b : Bool) : Rep K G (.bl b) (.bl b)
  | int (i : Int) : Rep K G (.int i) (.int i)
  | str (x : Str) : Rep K G (.str x) (.str x)
  | ref (a : Addr) : Rep K G (.ref a) (.ref a)
  | ty (n : String) : Rep K G (.ty n) (.ty n)
  | lst {a : Addr} {vs : List V} {xs : List D} : G a = some (.lst vs) → RepL K G vs xs → Rep K G (.ref a) (.lst xs)
  | tup {a : Addr} {vs : List V} {xs : List D} : TupG K G a vs → RepL K G vs xs → Rep K G (.ref a) (.tup xs)
  | scr {a : Addr} {ns : List Int} : SqL K G a (ns.map V.int) → Rep K G (.ref a) (.scr ns)
  | dic {a : Addr} {vs : List (Key × V)} {xs : List (Key × D)} : G a = some (.dK vs) → RepK K G vs xs → Rep K G (.ref a) (.dic xs)
inductive RepL (K : PySem.W.Frag) (G : Hp) : List V → List D → Prop
  | nil : RepL K G [] []
  | cons {v : V} {vs : List V} {d : D} {ds : List D} : Rep K G v d → RepL K G vs ds → RepL K G (v :: vs) (d :: ds)
inductive RepK (K : PySem.W.Frag) (G : Hp) : List (Key × V) → List (Key × D) → Prop
  | nil : RepK K G [] []
  | cons {k : Key} {v : V} {vs : List (Key × V)} {d : D} {ds : List (Key × D)} : Rep K G v d → RepK K G vs ds → RepK K G ((k, v) :: vs) ((k, d) :: ds)
end
def RepF (K : PySem.W.Frag) (G : Hp) : List (Str × V) → List (Str × D) → Prop := Paired fun p q => p.1 = q.1 ∧ Rep K G p.2 q.2

section
variable {K : PySem.W.Frag} {G G' : Hp}
mutual
theorem Rep.mono (e : Ex G G') : ∀ {d : D} {v : V}, Rep K G v d → Rep K G' v d
  | .non, _, h => by cases h; exact .non
  | .bl b, _, h => by cases h; exact .bl b
  | .int i, _, h => by cases h; exact .int i
  | .str x, _, h => by cases h; exact .str x
  | .ref a, _, h => by cases h; exact .ref a
  | .ty n, _, h => by cases h; exact .ty n
  | .scr ns, _, h => by
    cases h with
    | scr h => exact .scr (Evl.ex_l e h)
  | .lst xs, _, h => by
    cases h with
    | lst h1 h2 => exact .lst (e _ _ h1) (RepL.mono e h2)
  | .tup xs, _, h => by
    cases h with
    | tup h1 h2 => exact .tup (h1.mono e) (RepL.mono e h2)
  | .dic xs, _, h => by
    cases h with
    | dic h1 h2 => exact .dic (e _ _ h1) (RepK.mono e h2)
theorem RepL.mono (e : Ex G G') : ∀ {ds : List D} {vs : List V}, RepL K G vs ds → RepL K G' vs ds
  | [], _, h => by cases h; exact .nil
  | d :: ds, _, h => by
    cases h with
    | cons h1 h2 => exact .cons (Rep.mono e h1) (RepL.mono e h2)
theorem RepK.mono (e : Ex G G') : ∀ {ds : List (Key × D)} {vs : List (Key × V)}, RepK K G vs ds → RepK K G' vs ds
  | [], _, h => by cases h; exact .nil
  | (k, d) :: ds, _, h => by
    cases h with
    | cons h1 h2 => exact .cons (Rep.mono e h1) (RepK.mono e h2)
end
theorem RepF.mono (e : Ex G G') {fs : List (Str × V)} {ds : List (Str × D)} (h : RepF K G fs ds) : RepF K G' fs ds := Paired.mapP h fun _ _ z => ⟨z.1, z.2.mono e⟩
theorem RepL.length : ∀ {vs : List V} {ds : List D}, RepL K G vs ds → vs.length = ds.length
  | [], _, h => by cases h; rfl
  | v :: vs, _, h => by
    cases h with
    | cons h1 h2 => simp [RepL.length h2]
theorem RepL.get : ∀ {vs : List V} {ds : List D} {i : Nat} {d : D}, RepL K G vs ds → ds[i]? = some d → ∃ v, vs[i]? = some v ∧ Rep K G v d
  | [], _, i, d, h, e => by cases h; simp at e
  | v :: vs, _, 0, d, h, e => by
    cases h with
    | cons h1 h2 => simp at e; subst e; exact ⟨v, rfl, h1⟩
  | v :: vs, _, i + 1, d, h, e => by
    cases h with
    | cons h1 h2 => exact RepL.get (i := i) h2 (by simpa using e)
theorem RepL.get' : ∀ {vs : List V} {ds : List D} {i : Nat} {v : V}, RepL K G vs ds → vs[i]? = some v → ∃ d, ds[i]? = some d ∧ Rep K G v d
  | [], _, i, v, h, e => by simp at e
  | w :: vs, _, 0, v, h, e => by
    cases h with
    | cons h1 h2 => simp at e; subst e; exact ⟨_, rfl, h1⟩
  | w :: vs, _, i + 1, v, h, e => by
    cases h with
    | cons h1 h2 => exact RepL.get' (i := i) h2 (by simpa using e)
theorem RepL.append : ∀ {vs us : List V} {ds es : List D}, RepL K G vs ds → RepL K G us es → RepL K G (vs ++ us) (ds ++ es)
  | [], _, _, _, h, q => by cases h; exact q
  | v :: vs, _, _, _, h, q => by
    cases h with
    | cons h1 h2 => exact .cons h1 (RepL.append h2 q)
theorem RepL.one {v : V} {d : D} (h : Rep K G v d) : RepL K G [v] [d] := .cons h .nil
theorem RepL.set {v : V} {d : D} (r : Rep K G v d) : ∀ {vs : List V} {ds : List D} (i : Nat), RepL K G vs ds → RepL K G (vs.set i v) (ds.set i d)
  | [], _, _, h => by cases h; exact .nil
  | w :: vs, _, 0, h => by
    cases h with
    | cons h1 h2 => exact .cons r h2
  | w :: vs, _, i + 1, h => by
    cases h with
    | cons h1 h2 => exact .cons h1 (RepL.set r i h2)
theorem RepL.take : ∀ {vs : List V} {ds : List D} (n : Nat), RepL K G vs ds → RepL K G (vs.take n) (ds.take n)
  | [], _, n, h => by cases h; simp; exact .nil
  | w :: vs, _, 0, h => .nil
  | w :: vs, _, n + 1, h => by
    cases h with
    | cons h1 h2 => exact .cons h1 (RepL.take n h2)
theorem RepL.drop : ∀ {vs : List V} {ds : List D} (n : Nat), RepL K G vs ds → RepL K G (vs.drop n) (ds.drop n)
  | [], _, n, h => by cases h; simp; exact .nil
  | w :: vs, _, 0, h => h
  | w :: vs, _, n + 1, h => by
    cases h with
    | cons h1 h2 => exact RepL.drop n h2
theorem RepL.ints : ∀ {ns : List Int} {vs : List V}, RepL K G vs (ns.map D.int) → vs = ns.map V.int
  | [], _, h => by cases h; rfl
  | n :: ns, _, h => by
    cases h with
    | cons h1 h2 => cases h1; rw [RepL.ints h2]; rfl
theorem RepL.of_ints : ∀ (ns : List Int), RepL K G (ns.map V.int) (ns.map D.int)
  | [] => .nil
  | n :: ns => .cons (.int n) (RepL.of_ints ns)
end

/-! ### the store -/
inductive DM where
  | lst (xs : List D) | dic (kvs : List (Key × D)) | ins (C : Addr) (fs : List (Str × D)) | xd (fs : List (Str × D))
abbrev Sto := Addr → Option DM
def put (S : Sto) (p : Addr) (m : DM) : Sto := fun b => if b = p then some m else S b
def rem (S : Sto) (p : Addr) : Sto := fun b => if b = p then none else S b
theorem put_same {S : Sto} {p : Addr} {m : DM} : put S p m p = some m := if_pos rfl
theorem put_ne {S : Sto} {p b : Addr} {m : DM} (h : b ≠ p) : put S p m b = S b := if_neg h
theorem rem_same {S : Sto} {p : Addr} : rem S p p = none := if_pos rfl
theorem rem_ne {S : Sto} {p b : Addr} (h : b ≠ p) : rem S p b = S b := if_neg h
theorem put_put {S : Sto} {p : Addr} {m n : DM} : put (put S p m) p n = put S p n := by
  funext b; unfold put; split <;> rfl
theorem rem_put {S : Sto} {p : Addr} {m : DM} (h : S p = none) : rem (put S p m) p = S := by
  funext b; unfold rem put
  by_cases e : b = p
  · rw [if_pos e, e, h]
  · rw [if_neg e, if_neg e]
theorem put_eq {S : Sto} {p : Addr} {m : DM} (h : S p = some m) : put S p m = S := by
  funext b; unfold put
  by_cases e : b = p
  · rw [if_pos e, e, h]
  · rw [if_neg e]
def MOk (K : PySem.W.Frag) (G H : Hp) (p : Addr) : DM → Prop
  | .lst xs => ∃ vs, H p = some (.lst vs) ∧ RepL K G vs xs
  | .dic kvs => ∃ vs, H p = some (.dK vs) ∧ RepK K G vs kvs
  | .ins C fs => ∃ dx vs, H p = some (.ins C dx vs) ∧ RepF K G vs fs
  | .xd fs => ∃ vs, H p = some (.xd vs) ∧ RepF K G vs fs
structure Wok (K : PySem.W.Frag) (G H : Hp) (S : Sto) : Prop where
  ext : Ex G H
  sto : ∀ p m, S p = some m → G p = none ∧ MOk K G H p m
structure Fr (G H : Hp) (S : Sto) (G' H' : Hp) (S' : Sto) : Prop where
  g : Ex G G'
  fr : ∀ a o, H a = some o → G a = none → S a = none → H' a = some o ∧ G' a = none ∧ S' a = none
theorem Fr.refl (G H : Hp) (S : Sto) : Fr G H S G H S := ⟨Evl.Ex.refl _, fun _ _ h g s => ⟨h, g, s⟩⟩
theorem Fr.trans {G H G1 H1 G2 H2 : Hp} {S S1 S2 : Sto} (a : Fr G H S G1 H1 S1) (b : Fr G1 H1 S1 G2 H2 S2) : Fr G H S G2 H2 S2 :=
  ⟨a.g.trans b.g, fun x o h g s => let ⟨h1, g1, s1⟩ := a.fr x o h g s; b.fr x o h1 g1 s1⟩
section
variable {K : PySem.W.Frag} {G H G' H' : Hp} {S : Sto} {p : Addr}
theorem MOk.ex {m : DM} (h : MOk K G H p m) : ∃ o, H p = some o := by
  cases m with
  | lst xs => obtain ⟨_, h, _⟩ := h; exact ⟨_, h⟩
  | dic xs => obtain ⟨_, h, _⟩ := h; exact ⟨_, h⟩
  | ins C fs => obtain ⟨_, _, h, _⟩ := h; exact ⟨_, h⟩
  | xd fs => obtain ⟨_, h, _⟩ := h; exact ⟨_, h⟩
theorem MOk.mono {m : DM} (e : Ex G G') (h : MOk K G H p m) (k : ∀ o, H p = some o → H' p = some o) : MOk K G' H' p m := by
  cases m with
  | lst xs => obtain ⟨vs, h, r⟩ := h; exact ⟨vs, k _ h, r.mono e⟩
  | dic xs => obtain ⟨vs, h, r⟩ := h; exact ⟨vs, k _ h, r.mono e⟩
  | ins C fs => obtain ⟨dx, vs, h, r⟩ := h; exact ⟨dx, vs, k _ h, r.mono e⟩
  | xd fs => obtain ⟨vs, h, r⟩ := h; exact ⟨vs, k _ h, r.mono e⟩
theorem Wok.freeG (w : Wok K G H S) (h : H p = none) : G p = none := Evl.fresh_back w.ext h
theorem Wok.freeS (w : Wok K G H S) (h : H p = none) : S p = none := by
  cases e : S p with
  | none => rfl
  | some m =>
    obtain ⟨o, q⟩ := MOk.ex (w.sto p m e).2
    rw [h] at q; cases q
/-- a new object that becomes data -/
theorem Wok.newG {o : HO} (w : Wok K G H S) (h : H p = none) : Wok K (upd G p o) (upd H p o) S ∧ Fr G H S (upd G p o) (upd H p o) S := by
  have gp := w.freeG h
  have sp := w.freeS h
  have eg : Ex G (upd G p o) := Evl.Ex.new gp
  refine ⟨⟨fun a u e => ?_, fun q m e => ?_⟩, ⟨eg, fun a u e g s => ?_⟩⟩
  · by_cases c : a = p
    · subst c; rw [upd_same] at e ⊢; exact e
    · rw [upd_ne c] at e ⊢; exact w.ext a u e
  · have c : q ≠ p := fun c => by subst c; rw [sp] at e; cases e
    obtain ⟨g, m'⟩ := w.sto q m e
    exact ⟨by rw [upd_ne c]; exact g, MOk.mono eg m' fun u z => by rw [upd_ne c]; exact z⟩
  · have c : a ≠ p := fun c => by subst c; rw [h] at e; cases e
    exact ⟨by rw [upd_ne c]; exact e, by rw [upd_ne c]; exact g, s⟩
/-- a new object that is known to nobody -/
theorem Wok.newH {o : HO} (w : Wok K G H S) (h : H p = none) : Wok K G (upd H p o) S ∧ Fr G H S G (upd H p o) S := by
  have sp := w.freeS h
  refine ⟨⟨w.ext.trans (Evl.Ex.new h), fun q m e => ?_⟩, ⟨Evl.Ex.refl _, fun a u e g s => ?_⟩⟩
  · have c : q ≠ p := fun c => by subst c; rw [sp] at e; cases e
    obtain ⟨g, m'⟩ := w.sto q m e
    exact ⟨g, MOk.mono (Evl.Ex.refl _) m' fun u z => by rw [upd_ne c]; exact z⟩
  · have c : a ≠ p := fun c => by subst c; rw [h] at e; cases e
    exact ⟨by rw [upd_ne c]; exact e, g, s⟩
/-- a hidden object changes -/
theorem Wok.hid {o : HO} (w : Wok K G H S) (g : G p = none) (s : S p = none) : Wok K G (upd H p o) S := by
  refine ⟨fun a u e => ?_, fun q m e => ?_⟩
  · have c : a ≠ p := fun c => by subst c; rw [g] at e; cases e
    rw [upd_ne c]; exact w.ext a u e
  · have c : q ≠ p := fun c => by subst c; rw [s] at e; cases e
    obtain ⟨g, m'⟩ := w.sto q m e
    exact ⟨g, MOk.mono (Evl.Ex.refl _) m' fun u z => by rw [upd_ne c]; exact z⟩
/-- a hidden object becomes data -/
theorem Wok.show {o : HO} (w : Wok K G H S) (h : H p = some o) (s : S p = none) : Wok K (upd G p o) H S := by
  by_cases g : G p = none
  · have eg : Ex G (upd G p o) := Evl.Ex.new g
    refine ⟨fun a u e => ?_, fun q m e => ?_⟩
    · by_cases c : a = p
      · subst c; rw [upd_same] at e; cases e; exact h
      · rw [upd_ne c] at e; exact w.ext a u e
    · have c : q ≠ p := fun c => by subst c; rw [s] at e; cases e
      obtain ⟨g, m'⟩ := w.sto q m e
      exact ⟨by rw [upd_ne c]; exact g, MOk.mono eg m' fun u z => z⟩
  · have e : upd G p o = G := by
      funext b
      by_cases c : b = p
      · subst c
        rw [upd_same]
        cases q : G b with
        | none => exact absurd q g
        | some u =>
          have := w.ext b u q
          rw [h] at this; exact this
      · rw [upd_ne c]
    rw [e]; exact w
/-- a new object of the store; one that changes -/
theorem Wok.newS {o : HO} {m : DM} (w : Wok K G H S) (h : H p = none) (mk : MOk K G (upd H p o) p m) : Wok K G (upd H p o) (put S p m) ∧ Fr G H S G (upd H p o) (put S p m) := by
  refine ⟨⟨w.ext.trans (Evl.Ex.new h), fun q n e => ?_⟩, ⟨Evl.Ex.refl _, fun a u e g s => ?_⟩⟩
  · by_cases c : q = p
    · subst c; rw [put_same] at e; cases e; exact ⟨w.freeG h, mk⟩
    · rw [put_ne c] at e
      obtain ⟨g, m'⟩ := w.sto q n e
      exact ⟨g, MOk.mono (Evl.Ex.refl _) m' fun u z => by rw [upd_ne c]; exact z⟩
  · have c : a ≠ p := fun c => by subst c; rw [h] at e; cases e
    exact ⟨by rw [upd_ne c]; exact e, g, by rw [put_ne c]; exact s⟩
theorem Wok.chS {o : HO} {m n : DM} (w : Wok K G H S) (h : S p = some n) (mk : MOk K G (upd H p o) p m) : Wok K G (upd H p o) (put S p m) ∧ Fr G H S G (upd H p o) (put S p m) := by
  have gp := (w.sto p n h).1
  refine ⟨⟨fun a u e => ?_, fun q n e => ?_⟩, ⟨Evl.Ex.refl _, fun a u e g s => ?_⟩⟩
  · have c : a ≠ p := fun c => by subst c; rw [gp] at e; cases e
    rw [upd_ne c]; exact w.ext a u e
  · by_cases c : q = p
    · subst c; rw [put_same] at e; cases e; exact ⟨gp, mk⟩
    · rw [put_ne c] at e
      obtain ⟨g, m'⟩ := w.sto q n e
      exact ⟨g, MOk.mono (Evl.Ex.refl _) m' fun u z => by rw [upd_ne c]; exact z⟩
  · have c : a ≠ p := fun c => by subst c; rw [h] at s; cases s
    exact ⟨by rw [upd_ne c]; exact e, g, by rw [put_ne c]; exact s⟩
/-- what is in the store becomes data -/
theorem Wok.frz {o : HO} {m : DM} (w : Wok K G H S) (h : S p = some m) (hp : H p = some o) : Wok K (upd G p o) H (rem S p) ∧ Fr G H S (upd G p o) H (rem S p) := by
  have gp := (w.sto p m h).1
  have eg : Ex G (upd G p o) := Evl.Ex.new gp
  refine ⟨⟨fun a u e => ?_, fun q n e => ?_⟩, ⟨eg, fun a u e g s => ?_⟩⟩
  · by_cases c : a = p
    · subst c; rw [upd_same] at e; cases e; exact hp
    · rw [upd_ne c] at e; exact w.ext a u e
  · by_cases c : q = p
    · subst c; rw [rem_same] at e; cases e
    · rw [rem_ne c] at e
      obtain ⟨g, m'⟩ := w.sto q n e
      exact ⟨by rw [upd_ne c]; exact g, MOk.mono eg m' fun u z => z⟩
  · have c : a ≠ p := fun c => by subst c; rw [h] at s; cases s
    exact ⟨e, by rw [upd_ne c]; exact g, by rw [rem_ne c]; exact s⟩
/-- forgotten -/
theorem Wok.drop (w : Wok K G H S) : Wok K G H (rem S p) := ⟨w.ext, fun q m e => by
  by_cases c : q = p
  · subst c; rw [rem_same] at e; cases e
  · rw [rem_ne c] at e; exact w.sto q m e⟩
end

/-! ### slots -/
abbrev DSt := List (Option D)
structure Sl (K : PySem.W.Frag) (G : Hp) (σV : L2.St) (σ : DSt) : Prop where
  len : σV.length = σ.length
  at_ : ∀ (i : Nat) (d : D), σ[i]? = some (some d) → ∃ v, σV[i]? = some (some v) ∧ Rep K G v d
theorem Sl.mono {K : PySem.W.Frag} {G G' : Hp} {σV : L2.St} {σ : DSt} (s : Sl K G σV σ) (e : Ex G G') : Sl K G' σV σ := ⟨s.len, fun i d h => let ⟨v, h1, h2⟩ := s.at_ i d h; ⟨v, h1, h2.mono e⟩⟩
theorem Sl.set {K : PySem.W.Frag} {G : Hp} {σV : L2.St} {σ : DSt} {v : V} {d : D} (s : Sl K G σV σ) (i : Nat) (r : Rep K G v d) : Sl K G (σV.set i (some v)) (σ.set i (some d)) := by
  refine ⟨by rw [List.length_set, List.length_set]; exact s.len, fun j e h => ?_⟩
  by_cases c : i = j
  · subst c
    by_cases l : i < σ.length
    · rw [List.getElem?_set_self l] at h
      cases h
      exact ⟨v, by rw [List.getElem?_set_self (by rw [s.len]; exact l)], r⟩
    · rw [List.getElem?_eq_none (by simpa using l)] at h; cases h
  · rw [List.getElem?_set_ne c] at h ⊢
    exact s.at_ j e h
theorem Sl.unset {K : PySem.W.Frag} {G : Hp} {σV : L2.St} {σ : DSt} (s : Sl K G σV σ) (i : Nat) : Sl K G (σV.set i none) (σ.set i none) := by
  refine ⟨by rw [List.length_set, List.length_set]; exact s.len, fun j e h => ?_⟩
  by_cases c : i = j
  · subst c
    by_cases l : i < σ.length
    · rw [List.getElem?_set_self l] at h; cases h
    · rw [List.getElem?_eq_none (by simpa using l)] at h; cases h
  · rw [List.getElem?_set_ne c] at h ⊢
    exact s.at_ j e h
/-- the slot's datum told otherwise -/
theorem Sl.retell {K : PySem.W.Frag} {G : Hp} {σV : L2.St} {σ : DSt} {i : Nat} {d d' : D} (s : Sl K G σV σ) (h : σ[i]? = some (some d)) (r : ∀ v, Rep K G v d → Rep K G v d') : Sl K G σV (σ.set i (some d')) := by
  refine ⟨by rw [List.length_set]; exact s.len, fun j e q => ?_⟩
  by_cases c : i = j
  · subst c
    by_cases l : i < σ.length
    · rw [List.getElem?_set_self l] at q
      cases q
      obtain ⟨v, h1, h2⟩ := s.at_ i d h
      exact ⟨v, h1, r v h2⟩
    · rw [List.getElem?_eq_none (by simpa using l)] at q; cases q
  · rw [List.getElem?_set_ne c] at q
    exact s.at_ j e q

/-! ### judgements -/
abbrev DEr := Addr → Addr → Sto → Prop
abbrev DK := D → Sto → Prop
abbrev DTE := DEr → DSt → Sto → DK → Prop
abbrev DTT := DEr → DSt → Sto → (Bool → Sto → Prop) → Prop
abbrev DTA := DEr → DSt → Sto → (List D → Sto → Prop) → Prop
structure WOk (K : PySem.W.Frag) (W : WX) (E : DEr) (σV : L2.St) (G H : Hp) (S : Sto) : Prop where
  go : ∀ C d S' G' H', E C d S' → Wok K G' H' S' → Fr G H S G' H' S' → W (.ref C) (some d) σV H'
theorem WOk.mono {K : PySem.W.Frag} {W : WX} {E : DEr} {σV : L2.St} {G H G1 H1 : Hp} {S S1 : Sto} (w : WOk K W E σV G H S) (f : Fr G H S G1 H1 S1) : WOk K W E σV G1 H1 S1 := ⟨fun C d S' G' H' e k q => w.go C d S' G' H' e k (f.trans q)⟩
structure EvD (K : PySem.W.Frag) (W : WX) (t : TE) (r : DTE) : Prop where
  run : ∀ (E : DEr) (G H : Hp) (S : Sto) (σV : L2.St) (σ : DSt) (Q : DK) (P : VK), WOk K W E σV G H S → Wok K G H S → Sl K G σV σ → r E σ S Q →
    (∀ d S' G' H' v, Q d S' → Wok K G' H' S' → Fr G H S G' H' S' → Rep K G' v d → P v H') → t σV H P
structure EvT (K : PySem.W.Frag) (W : WX) (t : TT) (r : DTT) : Prop where
  run : ∀ (E : DEr) (G H : Hp) (S : Sto) (σV : L2.St) (σ : DSt) (Q : Bool → Sto → Prop) (P : Bool → Hp → Prop), WOk K W E σV G H S → Wok K G H S → Sl K G σV σ → r E σ S Q →
    (∀ b S' G' H', Q b S' → Wok K G' H' S' → Fr G H S G' H' S' → P b H') → t σV H P
structure EvA (K : PySem.W.Frag) (W : WX) (t : TA) (r : DTA) : Prop where
  run : ∀ (E : DEr) (G H : Hp) (S : Sto) (σV : L2.St) (σ : DSt) (Q : List D → Sto → Prop) (P : List V → Hp → Prop), WOk K W E σV G H S → Wok K G H S → Sl K G σV σ → r E σ S Q →
    (∀ ds S' G' H' vs, Q ds S' → Wok K G' H' S' → Fr G H S G' H' S' → RepL K G' vs ds → P vs H') → t σV H P
structure RvD (K : PySem.W.Frag) (r : R2) (q : D → D → Sto → DK → Prop) : Prop where
  run : ∀ (G H : Hp) (S : Sto) (x y : D) (v u : V) (Q : DK) (P : VK), Wok K G H S → Rep K G v x → Rep K G u y → q x y S Q →
    (∀ d S' G' H' z, Q d S' → Wok K G' H' S' → Fr G H S G' H' S' → Rep K G' z d → P z H') → r v u H P
structure RuD (K : PySem.W.Frag) (r : V → Hp → VK → Prop) (q : D → Sto → DK → Prop) : Prop where
  run : ∀ (G H : Hp) (S : Sto) (x : D) (v : V) (Q : DK) (P : VK), Wok K G H S → Rep K G v x → q x S Q →
    (∀ d S' G' H' z, Q d S' → Wok K G' H' S' → Fr G H S G' H' S' → Rep K G' z d → P z H') → r v H P
structure RcD (K : PySem.W.Frag) (r : List V → Hp → VK → Prop) (q : List D → Sto → DK → Prop) : Prop where
  run : ∀ (G H : Hp) (S : Sto) (xs : List D) (vs : List V) (Q : DK) (P : VK), Wok K G H S → RepL K G vs xs → q xs S Q →
    (∀ d S' G' H' z, Q d S' → Wok K G' H' S' → Fr G H S G' H' S' → Rep K G' z d → P z H') → r vs H P
def DE (X : Cx) (W : WX) (e : Expr) (r : DTE) : Prop := ∃ t, PE X e t ∧ EvD X.K W t r
def DT (X : Cx) (W : WX) (e : Expr) (r : DTT) : Prop := ∃ t, PT X e t ∧ EvT X.K W t r
def DW (X : Cx) (W : WX) (e : Expr) (r : DTT) : Prop := ∃ t, PW X e t ∧ EvT X.K W t r
def DA (X : Cx) (W : WX) (es : List Expr) (r : DTA) : Prop := ∃ t, PA X es t ∧ EvA X.K W t r
def DOp (X : Cx) (f : Value → Value → Sem Value) (q : D → D → Sto → DK → Prop) : Prop := ∃ r, OpR X f r ∧ RvD X.K r q
def DIx (X : Cx) (q : D → D → Sto → DK → Prop) : Prop := ∃ r, IxR X r ∧ RvD X.K r q
def DC (X : Cx) (f : Value) (q : List D → Sto → DK → Prop) : Prop := ∃ r, CallR X f r ∧ RcD X.K r q

/-! ### expressions -/
def dVar (i : Nat) : DTE := fun _ σ S Q => match σ[i]? with
  | some (some d) => Q d S
  | _ => False
def dC (d : D) : DTE := fun _ _ S Q => Q d S
section
variable {X : Cx} {W : WX} {K : PySem.W.Frag}
theorem ev_c {v : V} {d : D} (r : ∀ G, Rep K G v d) : EvD K W (tC v) (dC d) := ⟨fun E G H S σV σ Q P w k s h q => q d S G H v h k (.refl _ _ _) (r G)⟩
theorem ev_var (i : Nat) : EvD K W (tVar i) (dVar i) := ⟨fun E G H S σV σ Q P w k s h q => by
  unfold dVar at h
  split at h
  · rename_i d hd
    obtain ⟨v, h1, h2⟩ := s.at_ i d hd
    exact ⟨v, h1, q d S G H v h k (.refl _ _ _) h2⟩
  · exact h.elim⟩
theorem de_var (i : Nat) {x : Str} {pos : Pos} (hN : X.N[i]? = some x := by rfl) (hv : Vis X.env.scope x := by first | exact Or.inl rfl | exact Or.inr (Or.inl rfl) | exact Or.inr (Or.inr rfl)) (hd : (x == ("__debug__" : Str)) = false := by decide)
    (hcd : (x == ("__classdict__" : Str)) = false := by decide) : DE X W (.Name x pos) (dVar i) := ⟨_, pe_var hN hv hd hcd, ev_var i⟩
theorem de_int {i j pos} : DE X W (.Constant (.int i) j pos) (dC (.int i)) := ⟨_, pe_int, ev_c fun _ => .int _⟩
theorem de_bl {b j pos} : DE X W (.Constant (.bool b) j pos) (dC (.bl b)) := ⟨_, pe_bl, ev_c fun _ => .bl _⟩
theorem de_non {j pos} : DE X W (.Constant .none j pos) (dC .non) := ⟨_, pe_non, ev_c fun _ => .non⟩
theorem de_str {x j pos} : DE X W (.Constant (.str x) j pos) (dC (.str x)) := ⟨_, pe_str, ev_c fun _ => .str _⟩
theorem de_globI {x : Str} {i : Int} {t : Tok} {pos : Pos} (hg : Gl X x) (hm : X.mg x = some (.int i t)) (hd : (x == ("__debug__" : Str)) = false := by decide) : DE X W (.Name x pos) (dC (.int i)) := ⟨_, pe_glob (v := .int i) hg hm ⟨_, rfl⟩ hd, ev_c fun _ => .int _⟩
theorem de_globS {x : Str} {i : Str} {t : Tok} {pos : Pos} (hg : Gl X x) (hm : X.mg x = some (.str i t)) (hd : (x == ("__debug__" : Str)) = false := by decide) : DE X W (.Name x pos) (dC (.str i)) := ⟨_, pe_glob (v := .str i) hg hm ⟨_, rfl⟩ hd, ev_c fun _ => .str _⟩
def dOp (q : D → D → Sto → DK → Prop) (ra rb : DTE) : DTE := fun E σ S Q => ra E σ S fun x S1 => rb E σ S1 fun y S2 => q x y S2 Q
theorem ev_op {ta tb : TE} {ra rb : DTE} {r : R2} {q : D → D → Sto → DK → Prop} (ha : EvD K W ta ra) (hb : EvD K W tb rb) (hr : RvD K r q) : EvD K W (tOp r ta tb) (dOp q ra rb) := ⟨fun E G H S σV σ Q P w k s h p => by
  refine ha.run E G H S σV σ _ _ w k s h fun x S1 G1 H1 v h1 k1 f1 r1 => ?_
  refine hb.run E G1 H1 S1 σV σ _ _ (w.mono f1) k1 (s.mono f1.g) h1 fun y S2 G2 H2 u h2 k2 f2 r2 => ?_
  exact hr.run G2 H2 S2 x y v u Q P k2 (r1.mono f2.g) r2 h2 fun d S3 G3 H3 z h3 k3 f3 r3 => p d S3 G3 H3 z h3 k3 ((f1.trans f2).trans f3) r3⟩
variable {a b c e : Expr} {ra rb rc : DTE} {pos : Pos}
theorem de_op {op : Operator} {q : D → D → Sto → DK → Prop} (ho : DOp X (binaryOp op) q) (ha : DE X W a ra) (hb : DE X W b rb) : DE X W (.BinOp a op b pos) (dOp q ra rb) := by
  obtain ⟨ta, pa, ea⟩ := ha
  obtain ⟨tb, pb, eb⟩ := hb
  obtain ⟨r, o, e⟩ := ho
  exact ⟨_, pe_op o pa pb, ev_op ea eb e⟩
theorem de_cmp {op : CmpOp} {q : D → D → Sto → DK → Prop} (ho : DOp X (compareOp op) q) (ha : DE X W a ra) (hb : DE X W b rb) (hm : behindInMarks op b = false := by first | exact nomark _ | rfl) : DE X W (.Compare a [op] [b] pos) (dOp q ra rb) := by
  obtain ⟨ta, pa, ea⟩ := ha
  obtain ⟨tb, pb, eb⟩ := hb
  obtain ⟨r, o, e⟩ := ho
  exact ⟨_, pe_cmpR o pa pb hm, ev_op ea eb e⟩
theorem de_ix {q : D → D → Sto → DK → Prop} (ho : DIx X q) (ha : DE X W a ra) (hb : DE X W b rb) (hs : PlainIx b := by exact fun _ _ => rfl) : DE X W (.Subscript a b pos) (dOp q ra rb) := by
  obtain ⟨ta, pa, ea⟩ := ha
  obtain ⟨tb, pb, eb⟩ := hb
  obtain ⟨r, o, e⟩ := ho
  exact ⟨_, pe_ix o pa pb hs, ev_op ea eb e⟩
end
end KD

set_option maxRecDepth 100000
set_option maxHeartbeats 4000000
/-! Kd1: tests, arguments, statements, loops, comprehensions, calls of defs, over Kd0. -/
namespace KD
open PySem PySem.Spec PyProof.Rows L2
section
variable {X : Cx} {W : WX} {K : PySem.W.Frag} {a b c e : Expr} {ra rb rc : DTE} {pos : Pos} {ta tb tc te : TE}
/-! ### tests -/
def dTest (r : DTE) : DTT := fun E σ S Q => r E σ S fun d S' => match d with
  | .bl k => Q k S'
  | _ => False
theorem evt_test (h : EvD K W te ra) : EvT K W (tTest te) (dTest ra) := ⟨fun E G H S σV σ Q P w k s hr p => by
  refine h.run E G H S σV σ _ _ w k s hr fun d S' G' H' v hd k' f r => ?_
  cases d with
  | bl b => cases r; exact ⟨b, rfl, p b S' G' H' hd k' f⟩
  | _ => exact hd.elim⟩
theorem evt_B (h : EvD K W te ra) : EvT K W (tB te) (dTest ra) := ⟨fun E G H S σV σ Q P w k s hr p => by
  refine h.run E G H S σV σ _ _ w k s hr fun d S' G' H' v hd k' f r => ?_
  cases d with
  | bl b => cases r; exact ⟨b, rfl, p b S' G' H' hd k' f⟩
  | _ => exact hd.elim⟩
theorem dt_cmp {op : CmpOp} {q : D → D → Sto → DK → Prop} (ho : DOp X (compareOp op) q) (ha : DE X W a ra) (hb : DE X W b rb) (hm : behindInMarks op b = false := by first | exact nomark _ | rfl) : DT X W (.Compare a [op] [b] pos) (dTest (dOp q ra rb)) := by
  obtain ⟨ta, pa, ea⟩ := ha
  obtain ⟨tb, pb, eb⟩ := hb
  obtain ⟨r, o, e⟩ := ho
  exact ⟨_, pt_cmpR o pa pb hm, evt_test (ev_op ea eb e)⟩
/-- an expression that gives a bool (a call, a name) as a test -/
theorem dt_val {e : Expr} (h : DE X W e ra) (he : ∀ whole, isTrue e X.env whole = (do let v ← whole; standAt e.pos; holding [v] (truthy v)) := by intro _; rfl) : DT X W e (dTest ra) := by
  obtain ⟨t, p, q⟩ := h
  exact ⟨_, pt_val p he, evt_B q⟩
def vw (S : Sto) : D → D
  | .ref p => match S p with
    | some (.lst xs) => .lst xs
    | some (.dic kvs) => .dic kvs
    | _ => .ref p
  | d => d
theorem seq_of {G H : Hp} {S : Sto} {v : V} {d : D} {xs : List D} (k : Wok K G H S) (r : Rep K G v d) (h : vw S d = .lst xs) : ∃ a vs, v = .ref a ∧ H a = some (.lst vs) ∧ RepL K G vs xs := by
  unfold vw at h
  split at h
  · rename_i p
    cases r
    split at h
    · rename_i ys hp
      cases h
      obtain ⟨_, vs, q1, q2⟩ := k.sto p _ hp
      exact ⟨p, vs, rfl, q1, q2⟩
    · cases h
    · cases h
  · subst h
    cases r with
    | lst h1 h2 => exact ⟨_, _, rfl, k.ext _ _ h1, h2⟩
theorem tup_of {G H : Hp} {S : Sto} {v : V} {d : D} {xs : List D} (k : Wok K G H S) (r : Rep K G v d) (h : vw S d = .tup xs) : ∃ a vs, v = .ref a ∧ TupG K H a vs ∧ RepL K G vs xs ∧ TupG K G a vs := by
  unfold vw at h
  split at h
  · rename_i p
    split at h <;> cases h
  · subst h
    cases r with
    | tup h1 h2 => exact ⟨_, _, rfl, h1.mono k.ext, h2, h1⟩
theorem int_of {G : Hp} {S : Sto} {v : V} {d : D} {i : Int} (r : Rep K G v d) (h : vw S d = .int i) : v = .int i := by
  unfold vw at h
  split at h
  · split at h <;> cases h
  · subst h; cases r; rfl
theorem str_of {G : Hp} {S : Sto} {v : V} {d : D} {i : Str} (r : Rep K G v d) (h : vw S d = .str i) : v = .str i := by
  unfold vw at h
  split at h
  · split at h <;> cases h
  · subst h; cases r; rfl
theorem bl_of {G : Hp} {S : Sto} {v : V} {d : D} {i : Bool} (r : Rep K G v d) (h : vw S d = .bl i) : v = .bl i := by
  unfold vw at h
  split at h
  · split at h <;> cases h
  · subst h; cases r; rfl
/-- the truth of a datum -/
def dTruth (d : D) (S : Sto) (Q : Bool → Sto → Prop) : Prop := match vw S d with
  | .non => Q false S
  | .bl b => Q b S
  | .int i => Q (i != 0) S
  | .str x => x.length ≤ sizeLine ∧ Q ((x.length : Int) != 0) S
  | .lst xs => Q (!xs.isEmpty) S
  | .tup xs => Q (!xs.isEmpty) S
  | _ => False
def dTru (r : DTE) : DTT := fun E σ S Q => r E σ S fun d S' => dTruth d S' Q
theorem repl_empty {G : Hp} {vs : List V} {xs : List D} (h : RepL K G vs xs) : vs.isEmpty = xs.isEmpty := by cases h <;> rfl
theorem dt_truth {e : Expr} (h : DE X W e ra) (he : ∀ whole, isTrue e X.env whole = (do let v ← whole; standAt e.pos; holding [v] (truthy v)) := by intro _; rfl) : DT X W e (dTru ra) := by
  obtain ⟨t, p, q⟩ := h
  refine ⟨_, pt_truth p he, ⟨fun E G H S σV σ Q P w k s hr pp => ?_⟩⟩
  refine q.run E G H S σV σ _ _ w k s hr fun d S' G' H' v hd k' f r => ?_
  unfold dTruth at hd
  split at hd
  · rename_i hv
    have : v = .non := by
      unfold vw at hv
      split at hv
      · split at hv <;> cases hv
      · subst hv; cases r; rfl
    subst this
    exact ⟨false, rfl, pp _ S' G' H' hd k' f⟩
  · rename_i hv
    rw [bl_of r hv]
    exact ⟨_, rfl, pp _ S' G' H' hd k' f⟩
  · rename_i hv
    rw [int_of r hv]
    exact ⟨_, rfl, pp _ S' G' H' hd k' f⟩
  · rename_i hv
    rw [str_of r hv]
    exact ⟨_, ⟨hd.1, rfl⟩, pp _ S' G' H' hd.2 k' f⟩
  · rename_i xs hv
    obtain ⟨a, vs, e, h1, h2⟩ := seq_of k' r hv
    subst e
    refine ⟨_, .inl ⟨vs, .of h1, rfl⟩, ?_⟩
    rw [repl_empty h2]
    exact pp _ S' G' H' hd k' f
  · rename_i xs hv
    obtain ⟨a, vs, e, h1, h2, _⟩ := tup_of k' r hv
    subst e
    refine ⟨_, .inr (.inl ⟨vs, h1.sq, rfl⟩), ?_⟩
    rw [repl_empty h2]
    exact pp _ S' G' H' hd k' f
  · exact hd.elim
def dAnd (r q : DTT) : DTT := fun E σ S Q => r E σ S fun c S1 => if c = true then q E σ S1 Q else Q false S1
def dOr (r q : DTT) : DTT := fun E σ S Q => r E σ S fun c S1 => if c = true then Q true S1 else q E σ S1 Q
def dNot (r : DTT) : DTT := fun E σ S Q => r E σ S fun c S1 => Q (!c) S1
variable {tA tB : TT} {rA rB : DTT}
theorem evt_and (ha : EvT K W tA rA) (hb : EvT K W tB rB) : EvT K W (tAnd tA tB) (dAnd rA rB) := ⟨fun E G H S σV σ Q P w k s hr p => by
  refine ha.run E G H S σV σ _ _ w k s hr fun c S1 G1 H1 hd k1 f1 => ?_
  cases c with
  | true =>
    rw [if_pos rfl] at hd ⊢
    exact hb.run E G1 H1 S1 σV σ _ _ (w.mono f1) k1 (s.mono f1.g) hd fun b S2 G2 H2 q k2 f2 => p b S2 G2 H2 q k2 (f1.trans f2)
  | false =>
    rw [if_neg Bool.false_ne_true] at hd ⊢
    exact p _ S1 G1 H1 hd k1 f1⟩
theorem evt_or (ha : EvT K W tA rA) (hb : EvT K W tB rB) : EvT K W (tOr tA tB) (dOr rA rB) := ⟨fun E G H S σV σ Q P w k s hr p => by
  refine ha.run E G H S σV σ _ _ w k s hr fun c S1 G1 H1 hd k1 f1 => ?_
  cases c with
  | false =>
    rw [if_neg Bool.false_ne_true] at hd ⊢
    exact hb.run E G1 H1 S1 σV σ _ _ (w.mono f1) k1 (s.mono f1.g) hd fun b S2 G2 H2 q k2 f2 => p b S2 G2 H2 q k2 (f1.trans f2)
  | true =>
    rw [if_pos rfl] at hd ⊢
    exact p _ S1 G1 H1 hd k1 f1⟩
theorem evt_not (ha : EvT K W tA rA) : EvT K W (tNot tA) (dNot rA) := ⟨fun E G H S σV σ Q P w k s hr p =>
  ha.run E G H S σV σ _ _ w k s hr fun c S1 G1 H1 hd k1 f1 => p _ S1 G1 H1 hd k1 f1⟩
theorem DW.dt (h : DW X W e rA) : DT X W e rA := let ⟨t, p, q⟩ := h; ⟨t, p.pt, q⟩
theorem dw_and1 (h : DT X W a rA) : DW X W (.BoolOp .And [a] pos) rA := let ⟨_, p, q⟩ := h; ⟨_, pw_and1 p, q⟩
theorem dw_or1 (h : DT X W a rA) : DW X W (.BoolOp .Or [a] pos) rA := let ⟨_, p, q⟩ := h; ⟨_, pw_or1 p, q⟩
theorem dw_and {rest : List Expr} (ha : DT X W a rA) (hb : DW X W (.BoolOp .And (b :: rest) pos) rB) : DW X W (.BoolOp .And (a :: b :: rest) pos) (dAnd rA rB) :=
  let ⟨_, p, q⟩ := ha; let ⟨_, p', q'⟩ := hb; ⟨_, pw_and p p', evt_and q q'⟩
theorem dw_or {rest : List Expr} (ha : DT X W a rA) (hb : DW X W (.BoolOp .Or (b :: rest) pos) rB) : DW X W (.BoolOp .Or (a :: b :: rest) pos) (dOr rA rB) :=
  let ⟨_, p, q⟩ := ha; let ⟨_, p', q'⟩ := hb; ⟨_, pw_or p p', evt_or q q'⟩
theorem dt_not (ha : DT X W a rA) : DT X W (.UnaryOp .Not a pos) (dNot rA) := let ⟨_, p, q⟩ := ha; ⟨_, pt_not p, evt_not q⟩
def dAndV (ra rb : DTE) : DTE := fun E σ S Q => ra E σ S fun d S1 => match d with
  | .bl c => if c = true then rb E σ S1 Q else Q (.bl false) S1
  | _ => False
def dOrV (ra rb : DTE) : DTE := fun E σ S Q => ra E σ S fun d S1 => match d with
  | .bl c => if c = true then Q (.bl true) S1 else rb E σ S1 Q
  | _ => False
def dNotV (ra : DTE) : DTE := fun E σ S Q => ra E σ S fun d S1 => match d with
  | .bl c => Q (.bl (!c)) S1
  | _ => False
def dIfE (rA : DTT) (ra rb : DTE) : DTE := fun E σ S Q => rA E σ S fun c S1 => if c = true then ra E σ S1 Q else rb E σ S1 Q
theorem de_one {op} (h : DE X W a ra) : DE X W (.BoolOp op [a] pos) ra := let ⟨_, p, q⟩ := h; ⟨_, pe_one p, q⟩
theorem de_and {rest : List Expr} (ha : DE X W a ra) (hb : DE X W (.BoolOp .And (b :: rest) pos) rb) : DE X W (.BoolOp .And (a :: b :: rest) pos) (dAndV ra rb) := by
  obtain ⟨ta, pa, ea⟩ := ha
  obtain ⟨tb, pb, eb⟩ := hb
  refine ⟨_, pe_and pa pb, ⟨fun E G H S σV σ Q P w k s hr p => ?_⟩⟩
  refine ea.run E G H S σV σ _ _ w k s hr fun d S1 G1 H1 v hd k1 f1 r1 => ?_
  cases d with
  | bl c =>
    cases r1
    refine ⟨c, rfl, ?_⟩
    cases c with
    | true =>
      rw [if_pos rfl]
      have hd : rb E σ S1 Q := hd
      exact eb.run E G1 H1 S1 σV σ _ _ (w.mono f1) k1 (s.mono f1.g) hd fun b S2 G2 H2 z q k2 f2 => p b S2 G2 H2 z q k2 (f1.trans f2)
    | false =>
      rw [if_neg Bool.false_ne_true]
      exact p _ S1 G1 H1 _ hd k1 f1 (.bl _)
  | _ => exact hd.elim
theorem de_or {rest : List Expr} (ha : DE X W a ra) (hb : DE X W (.BoolOp .Or (b :: rest) pos) rb) : DE X W (.BoolOp .Or (a :: b :: rest) pos) (dOrV ra rb) := by
  obtain ⟨ta, pa, ea⟩ := ha
  obtain ⟨tb, pb, eb⟩ := hb
  refine ⟨_, pe_or pa pb, ⟨fun E G H S σV σ Q P w k s hr p => ?_⟩⟩
  refine ea.run E G H S σV σ _ _ w k s hr fun d S1 G1 H1 v hd k1 f1 r1 => ?_
  cases d with
  | bl c =>
    cases r1
    refine ⟨c, rfl, ?_⟩
    cases c with
    | false =>
      rw [if_neg Bool.false_ne_true]
      have hd : rb E σ S1 Q := hd
      exact eb.run E G1 H1 S1 σV σ _ _ (w.mono f1) k1 (s.mono f1.g) hd fun b S2 G2 H2 z q k2 f2 => p b S2 G2 H2 z q k2 (f1.trans f2)
    | true =>
      rw [if_pos rfl]
      exact p _ S1 G1 H1 _ hd k1 f1 (.bl _)
  | _ => exact hd.elim
theorem de_not (ha : DE X W a ra) : DE X W (.UnaryOp .Not a pos) (dNotV ra) := by
  obtain ⟨ta, pa, ea⟩ := ha
  refine ⟨_, pe_not pa, ⟨fun E G H S σV σ Q P w k s hr p => ?_⟩⟩
  refine ea.run E G H S σV σ _ _ w k s hr fun d S1 G1 H1 v hd k1 f1 r1 => ?_
  cases d with
  | bl c => cases r1; exact ⟨c, rfl, p _ S1 G1 H1 _ hd k1 f1 (.bl _)⟩
  | _ => exact hd.elim
theorem de_ifE (hc : DT X W c rA) (ha : DE X W a ra) (hb : DE X W b rb) : DE X W (.IfExp c a b pos) (dIfE rA ra rb) := by
  obtain ⟨tc, pc, ec⟩ := hc
  obtain ⟨ta, pa, ea⟩ := ha
  obtain ⟨tb, pb, eb⟩ := hb
  refine ⟨_, pe_ifExp pc pa pb, ⟨fun E G H S σV σ Q P w k s hr p => ?_⟩⟩
  refine ec.run E G H S σV σ _ _ w k s hr fun c S1 G1 H1 hd k1 f1 => ?_
  cases c with
  | true =>
    rw [if_pos rfl] at hd ⊢
    exact ea.run E G1 H1 S1 σV σ _ _ (w.mono f1) k1 (s.mono f1.g) hd fun b S2 G2 H2 z q k2 f2 => p b S2 G2 H2 z q k2 (f1.trans f2)
  | false =>
    rw [if_neg Bool.false_ne_true] at hd ⊢
    exact eb.run E G1 H1 S1 σV σ _ _ (w.mono f1) k1 (s.mono f1.g) hd fun b S2 G2 H2 z q k2 f2 => p b S2 G2 H2 z q k2 (f1.trans f2)
theorem de_ifV {e : Expr} (h : DT X W e rA) : DT X W e rA := h

/-! ### chains -/
def dChain (q q' : D → D → Sto → DK → Prop) (ra rb rc : DTE) : DTE := fun E σ S Q => ra E σ S fun x S1 => rb E σ S1 fun y S2 => q x y S2 fun d S3 => match d with
  | .bl k => if k = true then rc E σ S3 fun z S4 => q' y z S4 Q else Q (.bl false) S3
  | _ => False

/-! ### arguments -/
def dNil : DTA := fun _ _ S Q => Q [] S
def dCons (r : DTE) (q : DTA) : DTA := fun E σ S Q => r E σ S fun d S1 => q E σ S1 fun ds S2 => Q (d :: ds) S2
theorem da_nil : DA X W [] dNil := ⟨_, pa_nil, ⟨fun E G H S σV σ Q P w k s hr p => p [] S G H [] hr k (.refl _ _ _) .nil⟩⟩
theorem da_cons {es : List Expr} {q : DTA} (ha : DE X W e ra) (hr : DA X W es q) (hs : starEach (e :: es) X.env = (false, eval e X.env) :: starEach es X.env := by rfl) : DA X W (e :: es) (dCons ra q) := by
  obtain ⟨ta, pa, ea⟩ := ha
  obtain ⟨tr, pr, er⟩ := hr
  refine ⟨_, pa_cons pa pr hs, ⟨fun E G H S σV σ Q P w k s hr p => ?_⟩⟩
  refine ea.run E G H S σV σ _ _ w k s hr fun d S1 G1 H1 v hd k1 f1 r1 => ?_
  exact er.run E G1 H1 S1 σV σ _ _ (w.mono f1) k1 (s.mono f1.g) hd fun ds S2 G2 H2 vs h2 k2 f2 r2 => p _ S2 G2 H2 _ h2 k2 (f1.trans f2) (.cons (r1.mono f2.g) r2)
def dTup (q : DTA) : DTE := fun E σ S Q => q E σ S fun ds S' => ds.length ≤ sizeLine ∧ Q (.tup ds) S'
def dLst (q : DTA) : DTE := fun E σ S Q => q E σ S fun ds S' => ds.length ≤ sizeLine ∧ Q (.lst ds) S'
/-- a list that will change -/
def dLstM (q : DTA) : DTE := fun E σ S Q => q E σ S fun ds S' => ds.length ≤ sizeLine ∧ ∀ p, S' p = none → Q (.ref p) (put S' p (.lst ds))
theorem de_tup {es : List Expr} {q : DTA} {x1} (h : DA X W es q) : DE X W (.Tuple es x1 pos) (dTup q) := by
  obtain ⟨t, p, ea⟩ := h
  refine ⟨_, pe_tup p, ⟨fun E G H S σV σ Q P w k s hr p => ?_⟩⟩
  refine ea.run E G H S σV σ _ _ w k s hr fun ds S1 G1 H1 vs hd k1 f1 r1 => ⟨by rw [r1.length]; exact hd.1, fun q hq => ?_⟩
  obtain ⟨k2, f2⟩ := k1.newG (o := .tup vs) hq
  exact p _ _ _ _ _ hd.2 k2 (f1.trans f2) (.tup (.inl upd_same) (r1.mono f2.g))
theorem de_lst {es : List Expr} {q : DTA} (h : DA X W es q) : DE X W (.List es pos) (dLst q) := by
  obtain ⟨t, p, ea⟩ := h
  refine ⟨_, pe_lst p, ⟨fun E G H S σV σ Q P w k s hr p => ?_⟩⟩
  refine ea.run E G H S σV σ _ _ w k s hr fun ds S1 G1 H1 vs hd k1 f1 r1 => ⟨by rw [r1.length]; exact hd.1, fun q hq => ?_⟩
  obtain ⟨k2, f2⟩ := k1.newG (o := .lst vs) hq
  exact p _ _ _ _ _ hd.2 k2 (f1.trans f2) (.lst upd_same (r1.mono f2.g))
theorem de_lstM {es : List Expr} {q : DTA} (h : DA X W es q) : DE X W (.List es pos) (dLstM q) := by
  obtain ⟨t, p, ea⟩ := h
  refine ⟨_, pe_lst p, ⟨fun E G H S σV σ Q P w k s hr p => ?_⟩⟩
  refine ea.run E G H S σV σ _ _ w k s hr fun ds S1 G1 H1 vs hd k1 f1 r1 => ⟨by rw [r1.length]; exact hd.1, fun q hq => ?_⟩
  obtain ⟨k2, f2⟩ := k1.newS (o := .lst vs) (m := .lst ds) hq ⟨vs, upd_same, r1⟩
  exact p _ _ _ _ _ (hd.2 q (k1.freeS hq)) k2 (f1.trans f2) (.ref q)
/-- what is in the store becomes data -/
def dFrz (r : DTE) : DTE := fun E σ S Q => r E σ S fun d S' => ∃ p xs, d = .ref p ∧ S' p = some (.lst xs) ∧ Q (.lst xs) (rem S' p)
theorem de_frz (h : DE X W e ra) : DE X W e (dFrz ra) := by
  obtain ⟨t, p, ea⟩ := h
  refine ⟨_, p, ⟨fun E G H S σV σ Q P w k s hr p => ?_⟩⟩
  refine ea.run E G H S σV σ _ _ w k s hr fun d S1 G1 H1 v hd k1 f1 r1 => ?_
  obtain ⟨a, xs, rfl, hs, q⟩ := hd
  cases r1
  obtain ⟨_, vs, h1, h2⟩ := k1.sto a _ hs
  obtain ⟨k2, f2⟩ := k1.frz hs h1
  exact p _ _ _ _ _ q k2 (f1.trans f2) (.lst upd_same (h2.mono f2.g))

/-! ### calls on values -/
def dCall (q : List D → Sto → DK → Prop) (r : DTA) : DTE := fun E σ S Q => r E σ S fun ds S1 => q ds S1 Q
theorem ev_cb {t : TA} {r : DTA} {rc : List V → Hp → VK → Prop} {q : List D → Sto → DK → Prop} (ha : EvA K W t r) (hq : RcD K rc q) : EvD K W (tCB rc t) (dCall q r) := ⟨fun E G H S σV σ Q P w k s hr p => by
  refine ha.run E G H S σV σ _ _ w k s hr fun ds S1 G1 H1 vs hd k1 f1 r1 => ?_
  exact hq.run G1 H1 S1 ds vs Q P k1 r1 hd fun d S2 G2 H2 z h2 k2 f2 r2 => p d S2 G2 H2 z h2 k2 (f1.trans f2) r2⟩
theorem de_callB {id : String} {x : Str} {p : Pos} {es : List Expr} {r : DTA} {q : List D → Sto → DK → Prop} (hc : DC X (.builtin id) q) (hg : Gl X x) (hm : X.mg x = none) (hv : bootBuiltins x = some (.builtin id)) (ha : DA X W (e :: es) r)
    (hn : x ≠ "__name__" := by decide) (hdb : (x == ("__debug__" : Str)) = false := by decide) (hs : starEach (e :: es) X.env = (false, eval e X.env) :: starEach es X.env := by rfl) (hpl : (backTo pos (starEach es X.env)).any (·.1) = false := by rfl) :
    DE X W (.Call (.Name x p) (e :: es) [] pos) (dCall q r) := by
  obtain ⟨rc, c, eq⟩ := hc
  obtain ⟨t, pa, ea⟩ := ha
  exact ⟨_, pe_callB c hg hm hv pa hn hdb hs hpl, ev_cb ea eq⟩
theorem de_callTy {T : String} {x : Str} {p : Pos} {es : List Expr} {r : DTA} {q : List D → Sto → DK → Prop} (hc : DC X (.type T) q) (hg : Gl X x) (hm : X.mg x = none) (hv : bootBuiltins x = some (.type T)) (ha : DA X W (e :: es) r)
    (hn : x ≠ "__name__" := by decide) (hdb : (x == ("__debug__" : Str)) = false := by decide) (hs : starEach (e :: es) X.env = (false, eval e X.env) :: starEach es X.env := by rfl) (hpl : (backTo pos (starEach es X.env)).any (·.1) = false := by rfl) :
    DE X W (.Call (.Name x p) (e :: es) [] pos) (dCall q r) := by
  obtain ⟨rc, c, eq⟩ := hc
  obtain ⟨t, pa, ea⟩ := ha
  exact ⟨_, pe_callTy c hg hm hv pa hn hdb hs hpl, ev_cb ea eq⟩

/-! ### the promise of a def, and its call -/
abbrev DSp := List D → Sto → DK → DEr → Prop
def lift (K : PySem.W.Frag) (sp : DSp) : Sp := fun vs H Q E => ∃ (G : Hp) (S : Sto) (ds : List D) (Qd : DK) (Ed : DEr), Wok K G H S ∧ RepL K G vs ds ∧ sp ds S Qd Ed ∧
  (∀ d S' G' H' v, Qd d S' → Wok K G' H' S' → Fr G H S G' H' S' → Rep K G' v d → Q v H') ∧ ∀ C d S' G' H', Ed C d S' → Wok K G' H' S' → Fr G H S G' H' S' → E (.ref C) (some d) H'
def dFn (sp : DSp) (r : DTA) : DTE := fun E σ S Q => r E σ S fun ds S1 => sp ds S1 Q E
theorem ev_fn {t : TA} {r : DTA} {sp : DSp} (ha : EvA K W t r) : EvD K W (tCallS (lift K sp) (WE W) t) (dFn sp r) := ⟨fun E G H S σV σ Q P w k s hr p => by
  refine ha.run E G H S σV σ _ _ w k s hr fun ds S1 G1 H1 vs hd k1 f1 r1 => ?_
  exact ⟨G1, S1, ds, Q, E, k1, r1, hd, fun d S2 G2 H2 z h2 k2 f2 r2 => p d S2 G2 H2 z h2 k2 (f1.trans f2) r2, fun C d S2 G2 H2 h2 k2 f2 => w.go C d S2 G2 H2 h2 k2 (f1.trans f2)⟩⟩
/-- f(e, ..), f a def of the text that may raise; tk: what is raised is taken here -/
theorem de_fn {k : Nat} {f : Addr} {fd : FuncData} {ps : List Str} {sp : DSp} {x : Str} {p : Pos} {es : List Expr} {r : DTA} (tk : Takes X W) (F : FnOk X.prog X.w X.K X.mg X.base (L2.CX X.prog X.w) k f fd ps (lift X.K sp)) (hr : Room k X.A) (hg : Gl X x) (hm : X.mg x = some (.ref f))
    (hk : PySem.W.keepIn X.K (.ref f) = true) (hb : Binds X.K fd ps []) (ha : DA X W (e :: es) r) (hd : (x == ("__debug__" : Str)) = false := by decide)
    (hs : starEach (e :: es) X.env = (false, eval e X.env) :: starEach es X.env := by rfl) (hpl : (backTo pos (starEach es X.env)).any (·.1) = false := by rfl) :
    DE X W (.Call (.Name x p) (e :: es) [] pos) (dFn sp r) := by
  obtain ⟨t, pa, ea⟩ := ha
  exact ⟨_, pe_callS F hr hg hm hk hb (fun σ => passAt tk σ) pa hd hs hpl, ev_fn ea⟩
end
end KD

set_option maxRecDepth 100000
set_option maxHeartbeats 4000000
/-! Kd2: statements, targets, loops, comprehensions, the rule of a def. -/
namespace KD
open PySem PySem.Spec PyProof.Rows L2
structure DEnds where
  nx : DSt → Sto → Prop
  rt : DK
  bk : DSt → Sto → Prop
  ct : DSt → Sto → Prop
  ex : Addr → Addr → DSt → Sto → Prop
abbrev DTS := DEnds → DSt → Sto → Prop
abbrev DTG := D → DSt → Sto → (DSt → Sto → Prop) → Prop
abbrev DTGs := List D → DSt → Sto → (DSt → Sto → Prop) → Prop
/-- what is wanted of slots and heap -/
structure NOk (K : PySem.W.Frag) (N : DSt → Sto → Prop) (G H : Hp) (S : Sto) (M : L2.St → Hp → Prop) : Prop where
  go : ∀ σ' S' G' H' σV', N σ' S' → Wok K G' H' S' → Fr G H S G' H' S' → Sl K G' σV' σ' → M σV' H'
theorem NOk.mono {K : PySem.W.Frag} {N : DSt → Sto → Prop} {G H G1 H1 : Hp} {S S1 : Sto} {M : L2.St → Hp → Prop} (n : NOk K N G H S M) (f : Fr G H S G1 H1 S1) : NOk K N G1 H1 S1 M := ⟨fun σ' S' G' H' σV' q k g s => n.go σ' S' G' H' σV' q k (f.trans g) s⟩
/-- the slots outside js are as they were -/
structure Agr (js : List Nat) (σV σV' : L2.St) : Prop where
  len : σV'.length = σV.length
  at_ : ∀ i, i ∉ js → σV'[i]? = σV[i]?
theorem Agr.refl (js : List Nat) (σV : L2.St) : Agr js σV σV := ⟨rfl, fun _ _ => rfl⟩
theorem Agr.trans {js ks : List Nat} {a b c : L2.St} (x : Agr js a b) (y : Agr ks b c) : Agr (js ++ ks) a c := ⟨y.len.trans x.len, fun i h => (y.at_ i fun z => h (List.mem_append_right _ z)).trans (x.at_ i fun z => h (List.mem_append_left _ z))⟩
theorem Agr.set {a : L2.St} {v : Option V} (i : Nat) : Agr [i] a (a.set i v) := ⟨List.length_set, fun j h => List.getElem?_set_ne fun e => h (by rw [e]; exact List.mem_cons_self)⟩
structure NOkJ (K : PySem.W.Frag) (js : List Nat) (σV : L2.St) (N : DSt → Sto → Prop) (G H : Hp) (S : Sto) (M : L2.St → Hp → Prop) : Prop where
  go : ∀ σ' S' G' H' σV', N σ' S' → Wok K G' H' S' → Fr G H S G' H' S' → Sl K G' σV' σ' → Agr js σV σV' → M σV' H'
theorem NOk.j {K : PySem.W.Frag} {js : List Nat} {σV : L2.St} {N : DSt → Sto → Prop} {G H : Hp} {S : Sto} {M : L2.St → Hp → Prop} (n : NOk K N G H S M) : NOkJ K js σV N G H S M := ⟨fun σ' S' G' H' σV' q k f s _ => n.go σ' S' G' H' σV' q k f s⟩
structure EndsOk (K : PySem.W.Frag) (W : WX) (Dd : DEnds) (G H : Hp) (S : Sto) (Dh : Ends) : Prop where
  nx : NOk K Dd.nx G H S Dh.nx
  rt : ∀ d S' G' H' v, Dd.rt d S' → Wok K G' H' S' → Fr G H S G' H' S' → Rep K G' v d → Dh.rt v H'
  bk : NOk K Dd.bk G H S Dh.bk
  ct : NOk K Dd.ct G H S Dh.ct
  ex : ∀ C d σ' S' G' H' σV', Dd.ex C d σ' S' → Wok K G' H' S' → Fr G H S G' H' S' → Sl K G' σV' σ' → W (.ref C) (some d) σV' H'
section
variable {K : PySem.W.Frag} {W : WX}
theorem EndsOk.mono {Dd : DEnds} {G H G1 H1 : Hp} {S S1 : Sto} {Dh : Ends} (e : EndsOk K W Dd G H S Dh) (f : Fr G H S G1 H1 S1) : EndsOk K W Dd G1 H1 S1 Dh :=
  ⟨e.nx.mono f, fun d S' G' H' v q k g r => e.rt d S' G' H' v q k (f.trans g) r, e.bk.mono f, e.ct.mono f, fun C d σ' S' G' H' σV' q k g s => e.ex C d σ' S' G' H' σV' q k (f.trans g) s⟩
theorem EndsOk.wok {Dd : DEnds} {G H : Hp} {S : Sto} {Dh : Ends} {σV : L2.St} {σ : DSt} (e : EndsOk K W Dd G H S Dh) (s : Sl K G σV σ) : WOk K W (fun C d S' => Dd.ex C d σ S') σV G H S :=
  ⟨fun C d S' G' H' q k f => e.ex C d σ S' G' H' σV q k f (s.mono f.g)⟩
end
structure EvS (K : PySem.W.Frag) (W : WX) (t : TS) (r : DTS) : Prop where
  run : ∀ (Dd : DEnds) (G H : Hp) (S : Sto) (σV : L2.St) (σ : DSt) (Dh : Ends), EndsOk K W Dd G H S Dh → Wok K G H S → Sl K G σV σ → r Dd σ S → t Dh σV H
structure EvG (K : PySem.W.Frag) (js : List Nat) (g : TG) (r : DTG) : Prop where
  run : ∀ (G H : Hp) (S : Sto) (σV : L2.St) (σ : DSt) (d : D) (v : V) (N : DSt → Sto → Prop) (M : L2.St → Hp → Prop), Wok K G H S → Sl K G σV σ → Rep K G v d → r d σ S N → NOkJ K js σV N G H S M → g v σV H M
structure EvGs (K : PySem.W.Frag) (js : List Nat) (g : TGs) (r : DTGs) : Prop where
  run : ∀ (G H : Hp) (S : Sto) (σV : L2.St) (σ : DSt) (ds : List D) (vs : List V) (N : DSt → Sto → Prop) (M : L2.St → Hp → Prop), Wok K G H S → Sl K G σV σ → RepL K G vs ds → r ds σ S N → NOkJ K js σV N G H S M → g vs σV H M
def DS (X : Cx) (W : WX) (st : Stmt) (r : DTS) : Prop := ∃ t, PS X st t ∧ EvS X.K W t r
def DSs (X : Cx) (W : WX) (st : List Stmt) (r : DTS) : Prop := ∃ t, PSs X st t ∧ EvS X.K W t r
def DG (X : Cx) (e : Expr) (js : List Nat) (r : DTG) : Prop := ∃ t, PG X e t ∧ EvG X.K js t r
def DGs (X : Cx) (es : List Expr) (js : List Nat) (r : DTGs) : Prop := ∃ t, PGs X es t ∧ EvGs X.K js t r
section
variable {X : Cx} {W : WX} {K : PySem.W.Frag} {a b c e : Expr} {ra rb rc : DTE} {pos : Pos} {st : Stmt} {rest : List Stmt} {r1 r2 : DTS} {rA : DTT} {g : DTG}
/-! ### targets -/
def dgName (i : Nat) : DTG := fun d σ S N => N (σ.set i (some d)) S
theorem dg_name {i : Nat} {x : Str} (hN : X.N.Nodup) (hi : X.N[i]? = some x) (hx : Loc X.env.scope x) (hf : X.fn x = true ∨ X.env.scope.names.lookup x = some .local := by first | exact .inl rfl | exact .inr rfl | assumption) : DG X (.Name x pos) [i] (dgName i) :=
  ⟨_, pg_name hN hi hx hf, ⟨fun G H S σV σ d v N M k s r h n => n.go _ _ _ _ _ h k (.refl _ _ _) (s.set i r) (.set i)⟩⟩
def dgNil : DTGs := fun ds σ S N => ds = [] ∧ N σ S
def dgCons (g : DTG) (q : DTGs) : DTGs := fun ds σ S N => match ds with
  | d :: ds => g d σ S fun σ' S' => q ds σ' S' N
  | [] => False
theorem dgs_nil : DGs X [] [] dgNil := ⟨_, pgs_nil, ⟨fun G H S σV σ ds vs N M k s r h n => by
  obtain ⟨rfl, h⟩ := h
  cases r
  exact ⟨rfl, n.go _ _ _ _ _ h k (.refl _ _ _) s (.refl _ _)⟩⟩⟩
theorem dgs_cons {es : List Expr} {q : DTGs} {js ks : List Nat} (h1 : DG X e js g) (h2 : DGs X es ks q) (hs : (assignEach (e :: es) X.env).map (·.2) = assign e X.env :: (assignEach es X.env).map (·.2) := by rfl) : DGs X (e :: es) (js ++ ks) (dgCons g q) := by
  obtain ⟨t, p1, e1⟩ := h1
  obtain ⟨u, p2, e2⟩ := h2
  refine ⟨_, pgs_cons p1 p2 hs, ⟨fun G H S σV σ ds vs N M k s r h n => ?_⟩⟩
  cases r with
  | nil => exact h.elim
  | cons r1 r2 =>
    refine ⟨_, _, rfl, e1.run G H S σV σ _ _ _ _ k s r1 h ⟨fun σ' S' G' H' σV' q k' f s' ag => ?_⟩⟩
    exact e2.run G' H' S' σV' σ' _ _ _ _ k' s' (r2.mono f.g) q ⟨fun σ2 S2 G2 H2 σV2 q2 k2 f2 s2 ag2 => n.go σ2 S2 G2 H2 σV2 q2 k2 (f.trans f2) s2 (ag.trans ag2)⟩
def dgTup (n : Nat) (q : DTGs) : DTG := fun d σ S N => match d with
  | .tup ds => ds.length = n ∧ q ds σ S N
  | _ => False
theorem dg_tup {es : List Expr} {k n : Nat} {q : DTGs} {js : List Nat} (hc : X.calm = true) (h : DGs X es js q) (hn : (assignEach es X.env).length = n := by rfl) (hst : (assignEach es X.env).findIdx? (·.1) = none := by rfl) : DG X (.Tuple es k pos) js (dgTup n q) := by
  obtain ⟨t, p, e⟩ := h
  refine ⟨_, pg_tup hc p hn hst, ⟨fun G H S σV σ d v N M k s r h n => ?_⟩⟩
  cases d with
  | tup ds =>
    cases r with
    | tup h1 h2 => exact ⟨_, _, rfl, (h1.mono k.ext).sq, by rw [h2.length]; exact h.1, e.run G H S σV σ ds _ N M k s h2 h.2 n⟩
  | _ => exact h.elim
/-! ### statements -/
def dNext : DTS := fun Z σ S => Z.nx σ S
def dSeq (t u : DTS) : DTS := fun Z σ S => t { Z with nx := u Z } σ S
theorem EndsOk.seq {K : PySem.W.Frag} {W : WX} {Dd : DEnds} {G H : Hp} {S : Sto} {Dh : Ends} {u : DTS} {tu : TS} (e : EndsOk K W Dd G H S Dh) (hu : EvS K W tu u) : EndsOk K W { Dd with nx := u Dd } G H S { Dh with nx := tu Dh } :=
  ⟨⟨fun σ' S' G' H' σV' q k f s => hu.run Dd G' H' S' σV' σ' Dh (e.mono f) k s q⟩, e.rt, e.bk, e.ct, e.ex⟩
theorem dss_nil : DSs X W [] dNext := ⟨_, pss_nil, ⟨fun Dd G H S σV σ Dh e k s h => e.nx.go σ S G H σV h k (.refl _ _ _) s⟩⟩
theorem dss_cons (h1 : DS X W st r1) (h2 : DSs X W rest r2) : DSs X W (st :: rest) (dSeq r1 r2) := by
  obtain ⟨t, p, e⟩ := h1
  obtain ⟨u, q, f⟩ := h2
  exact ⟨_, pss_cons p q, ⟨fun Dd G H S σV σ Dh eo k s h => e.run _ G H S σV σ _ (eo.seq f) k s h⟩⟩
theorem dss_one (h1 : DS X W st r1) : DSs X W [st] r1 := let ⟨_, p, e⟩ := h1; ⟨_, pss_one p, e⟩
def dBreak : DTS := fun Z σ S => Z.bk σ S
def dCont : DTS := fun Z σ S => Z.ct σ S
theorem ds_pass : DS X W (.Pass pos) dNext := ⟨_, ps_pass, ⟨fun Dd G H S σV σ Dh e k s h => e.nx.go σ S G H σV h k (.refl _ _ _) s⟩⟩
theorem ds_break : DS X W (.Break pos) dBreak := ⟨_, ps_break, ⟨fun Dd G H S σV σ Dh e k s h => e.bk.go σ S G H σV h k (.refl _ _ _) s⟩⟩
theorem ds_continue : DS X W (.Continue pos) dCont := ⟨_, ps_continue, ⟨fun Dd G H S σV σ Dh e k s h => e.ct.go σ S G H σV h k (.refl _ _ _) s⟩⟩
def dNever : DTS := fun _ _ _ => False
theorem ds_never : DS X W st dNever := ⟨_, ps_never, ⟨fun _ _ _ _ _ _ _ _ _ _ h => h.elim⟩⟩
theorem dss_never {sts : List Stmt} : DSs X W sts dNever := ⟨_, pss_never, ⟨fun _ _ _ _ _ _ _ _ _ _ h => h.elim⟩⟩
def exOf (Z : DEnds) (σ : DSt) : DEr := fun C d S' => Z.ex C d σ S'
def dDrop (r : DTE) : DTS := fun Z σ S => r (exOf Z σ) σ S fun _ S' => Z.nx σ S'
theorem ds_expr (h : DE X W e ra) (hs : swapsWith e none pos.line X.env = pure false := by rfl) : DS X W (.Expr e pos) (dDrop ra) := by
  obtain ⟨t, p, q⟩ := h
  refine ⟨_, ps_expr p hs, ⟨fun Dd G H S σV σ Dh eo k s h => ?_⟩⟩
  exact q.run _ G H S σV σ _ _ (eo.wok s) k s h fun d S' G' H' v hd k' f r => eo.nx.go σ S' G' H' σV hd k' f (s.mono f.g)
def dRet (r : DTE) : DTS := fun Z σ S => r (exOf Z σ) σ S Z.rt
theorem ds_ret (h : DE X W e ra) : DS X W (.Return (some e) pos) (dRet ra) := by
  obtain ⟨t, p, q⟩ := h
  refine ⟨_, ps_ret p, ⟨fun Dd G H S σV σ Dh eo k s h => ?_⟩⟩
  exact q.run _ G H S σV σ _ _ (eo.wok s) k s h fun d S' G' H' v hd k' f r => eo.rt d S' G' H' v hd k' f r
def dRetN : DTS := fun Z σ S => Z.rt .non S
theorem ds_retN : DS X W (.Return none pos) dRetN := ⟨_, ps_retN, ⟨fun Dd G H S σV σ Dh eo k s h => eo.rt .non S G H .non h k (.refl _ _ _) .non⟩⟩
def dIfS (r : DTT) (t u : DTS) : DTS := fun Z σ S => r (exOf Z σ) σ S fun b S' => if b = true then t Z σ S' else u Z σ S'
theorem ds_if {c : Expr} {as bs : List Stmt} (hc : DT X W c rA) (ha : DSs X W as r1) (hb : DSs X W bs r2) : DS X W (.If c as bs pos) (dIfS rA r1 r2) := by
  obtain ⟨tc, pc, ec⟩ := hc
  obtain ⟨ta, pa, ea⟩ := ha
  obtain ⟨tb, pb, eb⟩ := hb
  refine ⟨_, ps_if pc pa pb, ⟨fun Dd G H S σV σ Dh eo k s h => ?_⟩⟩
  refine ec.run _ G H S σV σ _ _ (eo.wok s) k s h fun b S' G' H' hd k' f => ?_
  cases b with
  | true =>
    rw [if_pos rfl] at hd ⊢
    exact ea.run Dd G' H' S' σV σ Dh (eo.mono f) k' (s.mono f.g) hd
  | false =>
    rw [if_neg Bool.false_ne_true] at hd ⊢
    exact eb.run Dd G' H' S' σV σ Dh (eo.mono f) k' (s.mono f.g) hd
def dAsg (r : DTE) (g : DTG) : DTS := fun Z σ S => r (exOf Z σ) σ S fun d S' => g d σ S' Z.nx
theorem ds_asg {tg : Expr} {js : List Nat} (he : DE X W e ra) (hg : DG X tg js g) (hs : swapsWithSole [tg] e pos.line X.env = pure false := by rfl) (hw : swappedStores [tg] e X.env = pure none := by rfl) (h1 : (assignEach [tg] X.env).map (·.2) = [assign tg X.env] := by rfl) : DS X W (.Assign [tg] e pos) (dAsg ra g) := by
  obtain ⟨t, p, q⟩ := he
  obtain ⟨u, p2, q2⟩ := hg
  refine ⟨_, ps_asg p p2 hs hw h1, ⟨fun Dd G H S σV σ Dh eo k s h => ?_⟩⟩
  exact q.run _ G H S σV σ _ _ (eo.wok s) k s h fun d S' G' H' v hd k' f r => q2.run G' H' S' σV σ d v _ _ k' (s.mono f.g) r hd (eo.nx.mono f).j
theorem ds_set {i : Nat} {x : Str} {pos' : Pos} (hN : X.N.Nodup) (hi : X.N[i]? = some x) (hx : Loc X.env.scope x) (he : DE X W e ra) (hs : swapsWith e (some (.Name x pos')) pos.line X.env = pure false := by rfl)
    (hf : X.fn x = true ∨ X.env.scope.names.lookup x = some .local := by first | exact .inl rfl | exact .inr rfl | assumption) : DS X W (.Assign [.Name x pos'] e pos) (dAsg ra (dgName i)) := by
  obtain ⟨t, p, q⟩ := he
  refine ⟨_, ps_set hN hi hx p hs hf, ⟨fun Dd G H S σV σ Dh eo k s h => ?_⟩⟩
  exact q.run _ G H S σV σ _ _ (eo.wok s) k s h fun d S' G' H' v hd k' f r => eo.nx.go _ S' G' H' _ hd k' f ((s.mono f.g).set i r)
/-- a, b = e1, e2 (both local names) -/
def dPar (i j : Nat) (r : DTA) : DTS := fun Z σ S => r (exOf Z σ) σ S fun ds S' => match ds with
  | [x, y] => Z.nx ((σ.set i (some x)).set j (some y)) S'
  | _ => False
theorem ds_par {i j : Nat} {x y : Str} {r : DTA} {px py pt : Pos} {kt k2 pt2} (hc : X.calm = true) (hN : X.N.Nodup) (hi : X.N[i]? = some x) (hj : X.N[j]? = some y) (hij : i ≠ j) (hx : X.env.scope.names.lookup x = some .local) (hy : X.env.scope.names.lookup y = some .local)
    (ha : DA X W [a, b] r) (hw : swappedStores [.Tuple [.Name x px, .Name y py] kt pt] (.Tuple [a, b] k2 pt2) X.env = pure (some [x, y]) := by rfl)
    (hs : swapsWithSole [.Tuple [.Name x px, .Name y py] kt pt] (.Tuple [a, b] k2 pt2) pos.line X.env = pure false := by rfl) : DS X W (.Assign [.Tuple [.Name x px, .Name y py] kt pt] (.Tuple [a, b] k2 pt2) pos) (dPar i j r) := by
  obtain ⟨t, p, q⟩ := ha
  refine ⟨_, ps_par hc hN hi hj hij hx hy p hw hs, ⟨fun Dd G H S σV σ Dh eo k s h => ?_⟩⟩
  refine q.run _ G H S σV σ _ _ (eo.wok s) k s h fun ds S' G' H' vs hd k' f r => ?_
  match ds, vs, r, hd with
  | [d1, d2], [v1, v2], .cons r1 (.cons r2 .nil), hd => exact ⟨v1, v2, rfl, eo.nx.go _ S' G' H' _ hd k' f (((s.mono f.g).set i r1).set j r2)⟩
/-- x op= e -/
structure IpD (K : PySem.W.Frag) (r : TIp) (q : D → D → Sto → DK → Prop) : Prop where
  run : ∀ (G H : Hp) (S : Sto) (x y : D) (v u : V) (Q : DK) (P : VK), Wok K G H S → Rep K G v x → Rep K G u y → q x y S Q →
    (∀ d S' G' H' z, Q d S' → Wok K G' H' S' → Fr G H S G' H' S' → Rep K G' z d → P z H') → r v u H P
def DIp (X : Cx) (op : Operator) (q : D → D → Sto → DK → Prop) : Prop := ∃ r, PIp X op r ∧ IpD X.K r q
def dAug (i : Nat) (r : DTE) (q : D → D → Sto → DK → Prop) : DTS := fun Z σ S => match σ[i]? with
  | some (some x) => r (exOf Z σ) σ S fun y S1 => q x y S1 fun z S2 => Z.nx (σ.set i (some z)) S2
  | _ => False
theorem ds_aug {i : Nat} {x : Str} {op : Operator} {q : D → D → Sto → DK → Prop} {pos' : Pos} (hN : X.N.Nodup) (hi : X.N[i]? = some x) (hx : Loc X.env.scope x) (he : DE X W e ra) (ho : DIp X op q)
    (hf : X.fn x = true ∨ X.env.scope.names.lookup x = some .local := by first | exact .inl rfl | exact .inr rfl | assumption) : DS X W (.AugAssign (.Name x pos') op e pos) (dAug i ra q) := by
  obtain ⟨t, p, ev⟩ := he
  obtain ⟨r, po, eo'⟩ := ho
  refine ⟨_, ps_aug hN hi hx p po hf, ⟨fun Dd G H S σV σ Dh eo k s h => ?_⟩⟩
  unfold dAug at h
  split at h
  · rename_i d hd
    obtain ⟨v, h1, h2⟩ := s.at_ i d hd
    refine ⟨v, h1, ev.run _ G H S σV σ _ _ (eo.wok s) k s h fun y S1 G1 H1 u hy k1 f1 r1 => ?_⟩
    exact eo'.run G1 H1 S1 _ y v u _ _ k1 (h2.mono f1.g) r1 hy fun z S2 G2 H2 w hz k2 f2 r2 => eo.nx.go _ S2 G2 H2 _ hz k2 (f1.trans f2) ((s.mono (f1.trans f2).g).set i r2)
  · exact h.elim
/-- xs[i] = e of a list in the store -/
def dSetIx (ro ri rv : DTE) : DTS := fun Z σ S => rv (exOf Z σ) σ S fun v S1 => ro (exOf Z σ) σ S1 fun o S2 => ri (exOf Z σ) σ S2 fun i S3 => ∃ (p : Addr) (xs : List D) (n : Int) (j : Nat), o = .ref p ∧ i = .int n ∧ S3 p = some (.lst xs) ∧ ixN xs.length n = some j ∧
  Z.nx σ (put S3 p (.lst (xs.set j v)))
theorem ds_setIx {o i : Expr} {ro ri : DTE} {p2 : Pos} (ho : DE X W o ro) (hi : DE X W i ri) (he : DE X W e ra) (hs : swapsWithSole [.Subscript o i p2] e pos.line X.env = pure false := by rfl) (hw : swappedStores [.Subscript o i p2] e X.env = pure none := by rfl)
    (ha : ∀ v, assign (.Subscript o i p2) X.env v = (do
      let ov ← holding [v] (eval o X.env)
      let iv ← holding [v, ov] (eval i X.env)
      standAt p2
      holding [v, ov, iv] (setItem ov iv v)
      release [v, ov, iv] []) := by intro _; rfl) : DS X W (.Assign [.Subscript o i p2] e pos) (dSetIx ro ri ra) := by
  obtain ⟨t, p, q⟩ := he
  obtain ⟨to, po, qo⟩ := ho
  obtain ⟨ti, pi, qi⟩ := hi
  refine ⟨_, ps_asg p (pg_sub po pi set_list ha) hs hw, ⟨fun Dd G H S σV σ Dh eo k s h => ?_⟩⟩
  refine q.run _ G H S σV σ _ _ (eo.wok s) k s h fun d S1 G1 H1 v hd k1 f1 r1 => ?_
  refine qo.run _ G1 H1 S1 σV σ _ _ ((eo.wok s).mono f1) k1 (s.mono f1.g) hd fun d2 S2 G2 H2 v2 hd2 k2 f2 r2 => ?_
  refine qi.run _ G2 H2 S2 σV σ _ _ ((eo.wok s).mono (f1.trans f2)) k2 (s.mono (f1.trans f2).g) hd2 fun d3 S3 G3 H3 v3 hd3 k3 f3 r3 => ?_
  obtain ⟨pa, xs, n, j, rfl, rfl, hS, hj, hn⟩ := hd3
  cases r2
  cases r3
  obtain ⟨_, vs, h1, h2⟩ := k3.sto pa _ hS
  refine ⟨pa, vs, n, j, rfl, rfl, h1, by rw [h2.length]; exact hj, ?_⟩
  obtain ⟨k4, f4⟩ := k3.chS (o := .lst (vs.set j v)) (m := .lst (xs.set j d)) hS ⟨_, upd_same, h2.set (r1.mono (f2.trans f3).g) j⟩
  have ff := ((f1.trans f2).trans f3).trans f4
  exact eo.nx.go _ _ _ _ _ hn k4 ff (s.mono ff.g)
/-- ghost: the list in slot i becomes data ahead of a statement -/
def dFrzS (i : Nat) (r : DTS) : DTS := fun Z σ S => ∃ p xs, σ[i]? = some (some (.ref p)) ∧ S p = some (.lst xs) ∧ r Z (σ.set i (some (.lst xs))) (rem S p)
theorem ds_frzS (i : Nat) (h : DSs X W rest r1) : DSs X W rest (dFrzS i r1) := by
  obtain ⟨t, p, q⟩ := h
  refine ⟨_, p, ⟨fun Dd G H S σV σ Dh eo k s h => ?_⟩⟩
  obtain ⟨pa, xs, hi, hS, hn⟩ := h
  obtain ⟨_, vs, h1, h2⟩ := k.sto pa _ hS
  obtain ⟨k2, f2⟩ := k.frz hS h1
  exact q.run Dd _ H _ σV _ Dh (eo.mono f2) k2 ((s.mono f2.g).retell hi fun v r => by cases r; exact .lst upd_same (h2.mono f2.g)) hn
/-! ### loops -/
def dWhile (rc : DTT) (rb : DTS) : DTS := fun Z σ S => ∃ V : Nat → DSt → Sto → Prop, (∃ m, V m σ S) ∧ ∀ m σ S, V m σ S →
  rc (exOf Z σ) σ S fun b S1 => if b = true then ∃ N : DSt → Sto → Prop, (∀ σ' S', N σ' S' → ∃ m', m' < m ∧ V m' σ' S') ∧ rb { Z with nx := N, ct := N, bk := Z.nx } σ S1 else Z.nx σ S1
theorem ds_while {c : Expr} {body : List Stmt} (hp : PassesOwn (model X.prog X.w) X.A X.env X.xe) (hc : DT X W c rA) (hb : DSs X W body r1) : DS X W (.While c body [] pos) (dWhile rA r1) := by
  obtain ⟨tc, pc, ec⟩ := hc
  obtain ⟨tb, pb, eb⟩ := hb
  refine ⟨_, ps_while hp pc pb, ⟨fun Dd G H S σV σ Dh eo k s h => ?_⟩⟩
  obtain ⟨V, ⟨m0, v0⟩, turn⟩ := h
  refine ⟨fun m σV' H' => ∃ G' S' σ', V m σ' S' ∧ Wok X.K G' H' S' ∧ Fr G H S G' H' S' ∧ Sl X.K G' σV' σ', ⟨m0, G, S, σ, v0, k, .refl _ _ _, s⟩, fun m σV1 H1 hW => ?_⟩
  obtain ⟨G1, S1, σ1, v1, k1, f1, s1⟩ := hW
  have eo1 := eo.mono f1
  refine ec.run _ G1 H1 S1 σV1 σ1 _ _ (eo1.wok s1) k1 s1 (turn m σ1 S1 v1) fun b S2 G2 H2 hd k2 f2 => ?_
  have eo2 := eo1.mono f2
  cases b with
  | true =>
    rw [if_pos rfl] at hd ⊢
    obtain ⟨N, hN, hb⟩ := hd
    refine ⟨fun σV' H' => ∃ G' S' σ', N σ' S' ∧ Wok X.K G' H' S' ∧ Fr G H S G' H' S' ∧ Sl X.K G' σV' σ', fun σV' H' q => ?_, ?_⟩
    · obtain ⟨G', S', σ', n', k', f', s'⟩ := q
      obtain ⟨m', hm, v'⟩ := hN σ' S' n'
      exact ⟨m', hm, G', S', σ', v', k', f', s'⟩
    · have nn : NOk X.K N G2 H2 S2 (fun σV' H' => ∃ G' S' σ', N σ' S' ∧ Wok X.K G' H' S' ∧ Fr G H S G' H' S' ∧ Sl X.K G' σV' σ') := ⟨fun σ' S' G' H' σV' q k' f' s' => ⟨G', S', σ', q, k', (f1.trans f2).trans f', s'⟩⟩
      exact eb.run { Dd with nx := N, ct := N, bk := Dd.nx } G2 H2 S2 σV1 σ1 _ ⟨nn, eo2.rt, eo2.nx, nn, eo2.ex⟩ k2 (s1.mono f2.g) hb
  | false =>
    rw [if_neg Bool.false_ne_true] at hd ⊢
    exact eo2.nx.go σ1 S2 G2 H2 σV1 hd k2 (.refl _ _ _) (s1.mono f2.g)
/-- what a for walks: the items -/
abbrev DTI := DEr → DSt → Sto → (List D → Sto → Prop) → Prop
/-- J walks the items xs from the world (G, H, S) on -/
structure Wlk (K : PySem.W.Frag) (J : It) (xs : List D) (G H : Hp) (S : Sto) (Gd : Hp → Prop) (Y : Nat → Hp → V → Hp → Prop) : Prop where
  walk : Walk J xs.length Gd Y
  stay : ∀ G2 H2 S2, Wok K G2 H2 S2 → Fr G H S G2 H2 S2 → Gd H2
  item : ∀ i G2 H2 S2 H3 v, i < xs.length → Y i H2 v H3 → Wok K G2 H2 S2 → Fr G H S G2 H2 S2 → ∃ G3 d, xs[i]? = some d ∧ Wok K G3 H3 S2 ∧ Fr G2 H2 S2 G3 H3 S2 ∧ Rep K G3 v d
structure EvI (K : PySem.W.Frag) (W : WX) (t : TI) (r : DTI) : Prop where
  run : ∀ (E : DEr) (G H : Hp) (S : Sto) (σV : L2.St) (σ : DSt) (Q : List D → Sto → Prop) (R : It → Hp → Prop), WOk K W E σV G H S → Wok K G H S → Sl K G σV σ → r E σ S Q →
    (∀ xs S' G' H' J Gd Y, Q xs S' → Wok K G' H' S' → Fr G H S G' H' S' → Wlk K J xs G' H' S' Gd Y → R J H') → t σV H R
def DI (X : Cx) (W : WX) (tg iter : Expr) (r : DTI) : Prop := ∃ t, PI X tg iter t ∧ EvI X.K W t r
def dLoop (g : DTG) (rb : DTS) (Z : DEnds) : List D → DSt → Sto → Prop
  | [], σ, S => Z.nx σ S
  | x :: xs, σ, S => g x σ S fun σ' S' => rb { Z with nx := dLoop g rb Z xs, ct := dLoop g rb Z xs, bk := Z.nx } σ' S'
def dFor (ri : DTI) (g : DTG) (rb : DTS) : DTS := fun Z σ S => ri (exOf Z σ) σ S fun xs S1 => dLoop g rb Z xs σ S1
theorem ds_for {tg iter : Expr} {body : List Stmt} {ri : DTI} {js : List Nat} (hp : PassesOwn (model X.prog X.w) X.A X.env X.xe) (hc : X.calm = true) (hi : DI X W tg iter ri) (hg : DG X tg js g) (hb : DSs X W body r1) (hs : ∀ x, foldedSetIterable iter X.env x = pure x := by intro _; rfl) :
    DS X W (.For tg iter body [] pos) (dFor ri g r1) := by
  obtain ⟨ti, pi, ei⟩ := hi
  obtain ⟨tg', pg, eg⟩ := hg
  obtain ⟨tb, pb, eb⟩ := hb
  refine ⟨_, ps_for hp hc pi pg pb hs, ⟨fun Dd G H S σV σ Dh eo k s h => ?_⟩⟩
  refine ei.run _ G H S σV σ _ _ (eo.wok s) k s h fun xs S1 G1 H1 J Gd Y hd k1 f1 wl => ?_
  have eo1 := eo.mono f1
  refine for_it wl.walk (fun i σV' H' => ∃ G' S' σ', dLoop g r1 Dd (xs.drop i) σ' S' ∧ Wok X.K G' H' S' ∧ Fr G1 H1 S1 G' H' S' ∧ Sl X.K G' σV' σ') ⟨G1, S1, σ, hd, k1, .refl _ _ _, s.mono f1.g⟩ (fun i σV' H' _ hP => ?_) (fun i x σV' H' H3 hi hP hY => ?_) fun σV' H' hP => ?_
  · obtain ⟨G', S', σ', _, k', f', _⟩ := hP
    exact wl.stay G' H' S' k' f'
  · obtain ⟨G', S', σ', hl, k', f', s'⟩ := hP
    obtain ⟨G3, d, hx, k3, f3, r3⟩ := wl.item i G' H' S' H3 x hi hY k' f'
    have ed : xs.drop i = d :: xs.drop (i + 1) := by
      rw [List.getElem?_eq_getElem hi] at hx
      cases hx
      exact List.drop_eq_getElem_cons hi
    rw [ed] at hl
    have eo3 := eo1.mono (f'.trans f3)
    have nn : ∀ G2 H2 S2, Fr G1 H1 S1 G2 H2 S2 → NOk X.K (dLoop g r1 Dd (xs.drop (i + 1))) G2 H2 S2 (fun σV' H' => ∃ G' S' σ', dLoop g r1 Dd (xs.drop (i + 1)) σ' S' ∧ Wok X.K G' H' S' ∧ Fr G1 H1 S1 G' H' S' ∧ Sl X.K G' σV' σ') :=
      fun G2 H2 S2 f2 => ⟨fun σ4 S4 G4 H4 σV4 q k4 f4 s4 => ⟨G4, S4, σ4, q, k4, f2.trans f4, s4⟩⟩
    refine eg.run G3 H3 S' σV' σ' d x _ _ k3 (s'.mono f3.g) r3 hl ⟨fun σ4 S4 G4 H4 σV4 q k4 f4 s4 _ => ?_⟩
    have eo4 := eo3.mono f4
    have n4 := nn G4 H4 S4 ((f'.trans f3).trans f4)
    exact eb.run { Dd with nx := dLoop g r1 Dd (xs.drop (i + 1)), ct := dLoop g r1 Dd (xs.drop (i + 1)), bk := Dd.nx } G4 H4 S4 σV4 σ4 _ ⟨n4, eo4.rt, eo4.nx, n4, eo4.ex⟩ k4 s4 q
  · obtain ⟨G', S', σ', hl, k', f', s'⟩ := hP
    rw [List.drop_length] at hl
    exact eo1.nx.go σ' S' G' H' σV' hl k' f' s'
end
end KD

set_option maxRecDepth 100000
set_option maxHeartbeats 4000000
/-! Kd3: what is walked, comprehensions, the rule of a def. -/
namespace KD
open PySem PySem.Spec PyProof.Rows L2
/-! ### readings by data alone -/
def hE (K : PySem.W.Frag) (W : WX) (r : DTE) : TE := fun σV H P => ∃ (E : DEr) (G : Hp) (S : Sto) (σ : DSt) (Q : DK), WOk K W E σV G H S ∧ Wok K G H S ∧ Sl K G σV σ ∧ r E σ S Q ∧
  ∀ d S' G' H' v, Q d S' → Wok K G' H' S' → Fr G H S G' H' S' → Rep K G' v d → P v H'
def hT (K : PySem.W.Frag) (W : WX) (r : DTT) : TT := fun σV H P => ∃ (E : DEr) (G : Hp) (S : Sto) (σ : DSt) (Q : Bool → Sto → Prop), WOk K W E σV G H S ∧ Wok K G H S ∧ Sl K G σV σ ∧ r E σ S Q ∧
  ∀ b S' G' H', Q b S' → Wok K G' H' S' → Fr G H S G' H' S' → P b H'
def hG (K : PySem.W.Frag) (js : List Nat) (r : DTG) : TG := fun v σV H M => ∃ (G : Hp) (S : Sto) (σ : DSt) (d : D) (N : DSt → Sto → Prop), Wok K G H S ∧ Sl K G σV σ ∧ Rep K G v d ∧ r d σ S N ∧ NOkJ K js σV N G H S M
theorem evE (K : PySem.W.Frag) (W : WX) (r : DTE) : EvD K W (hE K W r) r := ⟨fun E G H S σV σ Q P w k s h p => ⟨E, G, S, σ, Q, w, k, s, h, p⟩⟩
theorem evT (K : PySem.W.Frag) (W : WX) (r : DTT) : EvT K W (hT K W r) r := ⟨fun E G H S σV σ Q P w k s h p => ⟨E, G, S, σ, Q, w, k, s, h, p⟩⟩
theorem evG (K : PySem.W.Frag) (js : List Nat) (r : DTG) : EvG K js (hG K js r) r := ⟨fun G H S σV σ d v N M k s q h n => ⟨G, S, σ, d, N, k, s, q, h, n⟩⟩
def DTs (X : Cx) (W : WX) (ifs : List Expr) (r : DTT) : Prop := ∃ t, PTs X ifs t ∧ EvT X.K W t r
section
variable {X : Cx} {W : WX} {K : PySem.W.Frag} {e c : Expr} {re : DTE} {rt : DTT} {g : DTG} {js : List Nat} {pos : Pos} {tg : Expr}
theorem DE.can (h : DE X W e re) : PE X e (hE X.K W re) := by
  obtain ⟨t, p, q⟩ := h
  exact ⟨fun pins s σ H Q I ⟨E, G, S, σ', Q', w, k, sl, hr, f⟩ => p.run pins s σ H Q I (q.run E G H S σ σ' Q' Q w k sl hr f)⟩
theorem DTs.can {ifs : List Expr} (h : DTs X W ifs rt) : PTs X ifs (hT X.K W rt) := by
  obtain ⟨t, p, q⟩ := h
  exact ⟨fun pins s σ H Q I ⟨E, G, S, σ', Q', w, k, sl, hr, f⟩ => p.run pins s σ H Q I (q.run E G H S σ σ' Q' Q w k sl hr f)⟩
theorem DG.can (h : DG X tg js g) : PG X tg (hG X.K js g) := by
  obtain ⟨t, p, q⟩ := h
  exact ⟨fun pins s σ H v u M I r ⟨G, S, σ', d, N, k, sl, rp, hr, n⟩ => p.run pins s σ H v u M I r (q.run G H S σ σ' d v N M k sl rp hr n)⟩
def dYes : DTT := fun _ _ S Q => Q true S
theorem dts_nil : DTs X W [] dYes := ⟨_, pts_nil, ⟨fun E G H S σV σ Q P w k s h p => p true S G H h k (.refl _ _ _)⟩⟩
theorem dts_one (h : DT X W c rt) : DTs X W [c] rt := let ⟨_, p, q⟩ := h; ⟨_, pts_one p, q⟩
end
/-! ### comprehensions -/
def dwipe (σ : DSt) : List Nat → DSt
  | [] => σ
  | v :: vs => (dwipe σ vs).set v none
theorem Sl.wipe {K : PySem.W.Frag} {G : Hp} {σV : L2.St} {σ : DSt} (s : Sl K G σV σ) : ∀ vs : List Nat, Sl K G (L2.wipe σV vs) (dwipe σ vs)
  | [] => s
  | v :: vs => (Sl.wipe s vs).unset v
theorem wipe_get (σ : L2.St) (i : Nat) : ∀ vs : List Nat, (L2.wipe σ vs)[i]? = if i ∈ vs ∧ i < σ.length then some none else σ[i]?
  | [] => by simp [L2.wipe]
  | v :: vs => by
    unfold L2.wipe
    have ih := wipe_get σ i vs
    by_cases h : v = i
    · subst h
      by_cases hl : v < σ.length
      · rw [List.getElem?_set_self (by rw [L2.wipe_length]; exact hl), if_pos ⟨List.mem_cons_self, hl⟩]
      · rw [List.getElem?_eq_none (by rw [List.length_set, L2.wipe_length]; omega), if_neg (fun q => hl q.2), List.getElem?_eq_none (by omega)]
    · rw [List.getElem?_set_ne h, ih]
      have e : i ∈ v :: vs ↔ i ∈ vs := by
        rw [List.mem_cons]
        exact ⟨fun q => q.resolve_left fun z => h z.symm, .inr⟩
      simp only [e]
theorem wipe_agr {σ σ2 : L2.St} {js vs : List Nat} (a : Agr js (L2.wipe σ vs) σ2) (hj : ∀ j ∈ js, j ∈ vs) : L2.wipe σ2 vs = L2.wipe σ vs := by
  apply List.ext_getElem?
  intro i
  have l : σ2.length = σ.length := by rw [a.len, L2.wipe_length]
  rw [wipe_get, wipe_get, l]
  by_cases h : i ∈ vs ∧ i < σ.length
  · rw [if_pos h, if_pos h]
  · rw [if_neg h, if_neg h]
    by_cases hv : i ∈ vs
    · have hl : ¬ i < σ.length := fun q => h ⟨hv, q⟩
      rw [List.getElem?_eq_none (by omega), List.getElem?_eq_none (by omega)]
    · rw [a.at_ i (fun q => hv (hj i q)), wipe_get, if_neg h]
abbrev W0 : WX := fun _ _ _ _ => False
abbrev DE0 : DEr := fun _ _ _ => False
theorem WOk.none {K : PySem.W.Frag} {σV : L2.St} {G H : Hp} {S : Sto} : WOk K W0 DE0 σV G H S := ⟨fun _ _ _ _ _ h => h.elim⟩
def dLcGo (g : DTG) (rt : DTT) (re : DTE) (σ : DSt) (Q : List D → Sto → Prop) : List D → Sto → List D → Prop
  | [], S, acc => Q acc S
  | x :: xs, S, acc => g x σ S fun σ2 S2 => rt DE0 σ2 S2 fun b S3 => if b = true then re DE0 σ2 S3 fun y S4 => acc.length < sizeLine ∧ dLcGo g rt re σ Q xs S4 (acc ++ [y]) else dLcGo g rt re σ Q xs S3 acc
def dLcL (ri : DTI) (g : DTG) (rt : DTT) (re : DTE) (vs : List Nat) (E : DEr) (σ : DSt) (S : Sto) (Q : List D → Sto → Prop) : Prop := ri E σ S fun xs S1 => dLcGo g rt re (dwipe σ vs) Q xs S1 []
def dLc (ri : DTI) (g : DTG) (rt : DTT) (re : DTE) (vs : List Nat) : DTE := fun E σ S Q => dLcL ri g rt re vs E σ S fun acc S2 => Q (.lst acc) S2
/-- the new list will change -/
def dLcM (ri : DTI) (g : DTG) (rt : DTT) (re : DTE) (vs : List Nat) : DTE := fun E σ S Q => dLcL ri g rt re vs E σ S fun acc S2 => ∀ p, S2 p = none → Q (.ref p) (put S2 p (.lst acc))
section
variable {K : PySem.W.Frag} {W : WX}
theorem ev_lcL {ti : TI} {ri : DTI} {g : DTG} {rt : DTT} {re : DTE} {vs js : List Nat} (ei : EvI K W ti ri) (hj : ∀ j ∈ js, j ∈ vs) {E : DEr} {G H : Hp} {S : Sto} {σV : L2.St} {σ : DSt} {Q : List D → Sto → Prop} {P : VK}
    (w : WOk K W E σV G H S) (k : Wok K G H S) (s : Sl K G σV σ) (h : dLcL ri g rt re vs E σ S Q)
    (p : ∀ p acc accV S' G' H', Q acc S' → Wok K G' H' S' → Ex G G' → (∀ a o, H a = some o → G a = none → S a = none → a ≠ p ∧ H' a = some o ∧ G' a = none ∧ S' a = none) → H' p = some (.lst accV) → G' p = none → S' p = none → RepL K G' accV acc → P (.ref p) H') :
    tLc ti (hG K js g) (hT K W0 rt) (hE K W0 re) vs σV H P := by
  refine ei.run E G H S σV σ _ _ w k s h fun xs S1 G1 H1 J Gd Y hd k1 f1 wl D hD => ?_
  have hDa : ∀ a o, H1 a = some o → a ≠ D := fun a o e z => by rw [z, hD] at e; cases e
  refine lc_it wl.walk (fun i H' => ∃ G' S' accV acc, dLcGo g rt re (dwipe σ vs) Q (xs.drop i) S' acc ∧ Wok K G' H' S' ∧ Fr G1 H1 S1 G' H' S' ∧ H' D = some (.lst accV) ∧ G' D = none ∧ S' D = none ∧ RepL K G' accV acc) ?_ (fun i H' _ hP => ?_) (fun i x H' H3 hi hP hY => ?_) fun H' hP => ?_
  · obtain ⟨k2, f2⟩ := k1.newH (o := .lst []) hD
    exact ⟨G1, S1, [], [], hd, k2, f2, upd_same, k1.freeG hD, k1.freeS hD, .nil⟩
  · obtain ⟨G', S', accV, acc, _, k', f', _⟩ := hP
    exact wl.stay G' H' S' k' f'
  · obtain ⟨G', S', accV, acc, hl, k', f', hp, gp, sp, ra⟩ := hP
    obtain ⟨G3, d, hx, k3, f3, r3⟩ := wl.item i G' H' S' H3 x hi hY k' f'
    obtain ⟨hp3, gp3, sp3⟩ := f3.fr D _ hp gp sp
    have ed : xs.drop i = d :: xs.drop (i + 1) := by
      rw [List.getElem?_eq_getElem hi] at hx
      cases hx
      exact List.drop_eq_getElem_cons hi
    rw [ed] at hl
    refine (evG K js g).run G3 H3 S' (L2.wipe σV vs) (dwipe σ vs) d x _ _ k3 ((s.mono ((f1.trans f').trans f3).g).wipe vs) r3 hl ⟨fun σ4 S4 G4 H4 σV4 q k4 f4 s4 ag => ⟨wipe_agr ag hj, ?_⟩⟩
    refine (evT K W0 rt).run DE0 G4 H4 S4 σV4 σ4 _ _ .none k4 s4 q fun b S5 G5 H5 q5 k5 f5 => ?_
    have f35 := (f3.trans f4).trans f5
    cases b with
    | true =>
      rw [if_pos rfl] at q5 ⊢
      refine (evE K W0 re).run DE0 G5 H5 S5 σV4 σ4 _ _ .none k5 (s4.mono f5.g) q5 fun y S6 G6 H6 v q6 k6 f6 r6 => ?_
      have f36 := f35.trans f6
      obtain ⟨hp6, gp6, sp6⟩ := f36.fr D _ hp gp sp
      refine ⟨accV, hp6, by rw [ra.length]; exact q6.1, G6, S6, accV ++ [v], acc ++ [y], q6.2, k6.hid gp6 sp6, ⟨(f'.trans f36).g, fun a o e g s => ?_⟩, upd_same, gp6, sp6, (ra.mono f36.g).append (.one r6)⟩
      obtain ⟨h1, h2, h3⟩ := (f'.trans f36).fr a o e g s
      exact ⟨by rw [upd_ne (hDa a o e)]; exact h1, h2, h3⟩
    | false =>
      rw [if_neg Bool.false_ne_true] at q5 ⊢
      obtain ⟨hp5, gp5, sp5⟩ := f35.fr D _ hp gp sp
      exact ⟨G5, S5, accV, acc, q5, k5, f'.trans f35, hp5, gp5, sp5, ra.mono f35.g⟩
  · obtain ⟨G', S', accV, acc, hl, k', f', hp, gp, sp, ra⟩ := hP
    rw [List.drop_length] at hl
    refine p D acc accV S' G' H' hl k' (f1.trans f').g (fun a o e g s => ?_) hp gp sp ra
    obtain ⟨h1, h2, h3⟩ := f1.fr a o e g s
    obtain ⟨h4, h5, h6⟩ := f'.fr a o h1 h2 h3
    exact ⟨hDa a o h1, h4, h5, h6⟩
theorem ev_lc {ti : TI} {ri : DTI} {g : DTG} {rt : DTT} {re : DTE} {vs js : List Nat} (ei : EvI K W ti ri) (hj : ∀ j ∈ js, j ∈ vs) : EvD K W (tLc ti (hG K js g) (hT K W0 rt) (hE K W0 re) vs) (dLc ri g rt re vs) :=
  ⟨fun E G H S σV σ Q P w k s h p => ev_lcL ei hj w k s h fun q acc accV S' G' H' hq k' e fr hp gp sp ra => by
    have eg : Ex G' (upd G' q (.lst accV)) := Evl.Ex.new gp
    exact p _ S' _ H' _ hq (k'.show hp sp) ⟨e.trans eg, fun a o e g s => let ⟨n, h1, h2, h3⟩ := fr a o e g s; ⟨h1, by rw [upd_ne n]; exact h2, h3⟩⟩ (.lst upd_same (ra.mono eg))⟩
theorem ev_lcM {ti : TI} {ri : DTI} {g : DTG} {rt : DTT} {re : DTE} {vs js : List Nat} (ei : EvI K W ti ri) (hj : ∀ j ∈ js, j ∈ vs) : EvD K W (tLc ti (hG K js g) (hT K W0 rt) (hE K W0 re) vs) (dLcM ri g rt re vs) :=
  ⟨fun E G H S σV σ Q P w k s h p => ev_lcL ei hj w k s h fun q acc accV S' G' H' hq k' e fr hp gp sp ra => by
    refine p _ (put S' q (.lst acc)) G' H' _ (hq q sp) ⟨k'.ext, fun b m hb => ?_⟩ ⟨e, fun a o e g s => let ⟨n, h1, h2, h3⟩ := fr a o e g s; ⟨h1, h2, by rw [put_ne n]; exact h3⟩⟩ (.ref q)
    by_cases c : b = q
    · subst c; rw [put_same] at hb; cases hb; exact ⟨gp, accV, hp, ra⟩
    · rw [put_ne c] at hb; exact k'.sto b m hb⟩
end
section
variable {X : Cx} {W : WX} {elt tg iter : Expr} {ifs : List Expr} {scope : Scope} {own : List (Str × Nat)} {pos : Pos} {ri : DTI} {g : DTG} {rt : DTT} {re : DTE} {js : List Nat}
theorem de_lc (hc : X.calm = true) (hN : X.N.Nodup) (hi : DI X W tg iter ri) {vs : List Nat} (ok : BlkOk X.N X.env.scope scope own)
    (hg : ∀ (s : Shared) (H : Hp) (C : Addr) (cl : List (Str × Addr)) (fp : List Addr), DG (X.blk s H scope (compEnvC scope cl C X.env) fp) tg js g) (ht : ∀ (s : Shared) (H : Hp) (C : Addr) (cl : List (Str × Addr)) (fp : List Addr), DTs (X.blk s H scope (compEnvC scope cl C X.env) fp) W0 ifs rt)
    (he : ∀ (s : Shared) (H : Hp) (C : Addr) (cl : List (Str × Addr)) (fp : List Addr), DE (X.blk s H scope (compEnvC scope cl C X.env) fp) W0 elt re) (hv : own.map (·.2) = vs) (hj : ∀ j ∈ js, j ∈ vs) (hs : ∀ x, foldedSetIterable iter X.env x = pure x := by intro _; rfl) :
    DE X W (.ListComp elt [⟨tg, iter, ifs, 0⟩] scope pos) (dLc ri g rt re vs) := by
  subst hv
  obtain ⟨ti, pi, ei⟩ := hi
  exact ⟨_, pe_lc (te := hE X.K W0 re) (g := hG X.K js g) (tt := hT X.K W0 rt) hc hN pi ok (fun s H C cl fp => (hg s H C cl fp).can) (fun s H C cl fp => (ht s H C cl fp).can) (fun s H C cl fp => (he s H C cl fp).can) hs, ev_lc ei hj⟩
theorem de_lcM (hc : X.calm = true) (hN : X.N.Nodup) (hi : DI X W tg iter ri) {vs : List Nat} (ok : BlkOk X.N X.env.scope scope own)
    (hg : ∀ (s : Shared) (H : Hp) (C : Addr) (cl : List (Str × Addr)) (fp : List Addr), DG (X.blk s H scope (compEnvC scope cl C X.env) fp) tg js g) (ht : ∀ (s : Shared) (H : Hp) (C : Addr) (cl : List (Str × Addr)) (fp : List Addr), DTs (X.blk s H scope (compEnvC scope cl C X.env) fp) W0 ifs rt)
    (he : ∀ (s : Shared) (H : Hp) (C : Addr) (cl : List (Str × Addr)) (fp : List Addr), DE (X.blk s H scope (compEnvC scope cl C X.env) fp) W0 elt re) (hv : own.map (·.2) = vs) (hj : ∀ j ∈ js, j ∈ vs) (hs : ∀ x, foldedSetIterable iter X.env x = pure x := by intro _; rfl) :
    DE X W (.ListComp elt [⟨tg, iter, ifs, 0⟩] scope pos) (dLcM ri g rt re vs) := by
  subst hv
  obtain ⟨ti, pi, ei⟩ := hi
  exact ⟨_, pe_lc (te := hE X.K W0 re) (g := hG X.K js g) (tt := hT X.K W0 rt) hc hN pi ok (fun s H C cl fp => (hg s H C cl fp).can) (fun s H C cl fp => (ht s H C cl fp).can) (fun s H C cl fp => (he s H C cl fp).can) hs, ev_lcM ei hj⟩
/-- y = [..], y a local -/
theorem ds_setLc {i : Nat} {y : Str} {py spos : Pos} (hc : X.calm = true) (hN : X.N.Nodup) (hy : X.N[i]? = some y) (hyl : X.env.scope.names.lookup y = some .local) (hsw : swapsWith (.ListComp elt [⟨tg, iter, ifs, 0⟩] scope pos) (some (.Name y py)) spos.line X.env = pure true) (hi : DI X W tg iter ri) {vs : List Nat} (ok : BlkOk X.N X.env.scope scope own)
    (hg : ∀ (s : Shared) (H : Hp) (C : Addr) (cl : List (Str × Addr)) (fp : List Addr), DG (X.blk s H scope (compEnvC scope cl C X.env) fp) tg js g) (ht : ∀ (s : Shared) (H : Hp) (C : Addr) (cl : List (Str × Addr)) (fp : List Addr), DTs (X.blk s H scope (compEnvC scope cl C X.env) fp) W0 ifs rt)
    (he : ∀ (s : Shared) (H : Hp) (C : Addr) (cl : List (Str × Addr)) (fp : List Addr), DE (X.blk s H scope (compEnvC scope cl C X.env) fp) W0 elt re) (hv : own.map (·.2) = vs) (hj : ∀ j ∈ js, j ∈ vs) (hs : ∀ x, foldedSetIterable iter X.env x = pure x := by intro _; rfl) :
    DS X W (.Assign [.Name y py] (.ListComp elt [⟨tg, iter, ifs, 0⟩] scope pos) spos) (dAsg (dLc ri g rt re vs) (dgName i)) := by
  subst hv
  obtain ⟨ti, pi, ei⟩ := hi
  refine ⟨_, ps_setLc (te := hE X.K W0 re) (g := hG X.K js g) (tt := hT X.K W0 rt) hc hN hy hyl hsw pi ok (fun s H C cl fp => (hg s H C cl fp).can) (fun s H C cl fp => (ht s H C cl fp).can) (fun s H C cl fp => (he s H C cl fp).can) hs, ⟨fun Dd G H S σV σ Dh eo k s h => ?_⟩⟩
  exact (ev_lc ei hj).run _ G H S σV σ _ _ (eo.wok s) k s h fun d S' G' H' v hd k' f r => eo.nx.go _ S' G' H' _ hd k' f ((s.mono f.g).set i r)
theorem ds_setLcM {i : Nat} {y : Str} {py spos : Pos} (hc : X.calm = true) (hN : X.N.Nodup) (hy : X.N[i]? = some y) (hyl : X.env.scope.names.lookup y = some .local) (hsw : swapsWith (.ListComp elt [⟨tg, iter, ifs, 0⟩] scope pos) (some (.Name y py)) spos.line X.env = pure true) (hi : DI X W tg iter ri) {vs : List Nat} (ok : BlkOk X.N X.env.scope scope own)
    (hg : ∀ (s : Shared) (H : Hp) (C : Addr) (cl : List (Str × Addr)) (fp : List Addr), DG (X.blk s H scope (compEnvC scope cl C X.env) fp) tg js g) (ht : ∀ (s : Shared) (H : Hp) (C : Addr) (cl : List (Str × Addr)) (fp : List Addr), DTs (X.blk s H scope (compEnvC scope cl C X.env) fp) W0 ifs rt)
    (he : ∀ (s : Shared) (H : Hp) (C : Addr) (cl : List (Str × Addr)) (fp : List Addr), DE (X.blk s H scope (compEnvC scope cl C X.env) fp) W0 elt re) (hv : own.map (·.2) = vs) (hj : ∀ j ∈ js, j ∈ vs) (hs : ∀ x, foldedSetIterable iter X.env x = pure x := by intro _; rfl) :
    DS X W (.Assign [.Name y py] (.ListComp elt [⟨tg, iter, ifs, 0⟩] scope pos) spos) (dAsg (dLcM ri g rt re vs) (dgName i)) := by
  subst hv
  obtain ⟨ti, pi, ei⟩ := hi
  refine ⟨_, ps_setLc (te := hE X.K W0 re) (g := hG X.K js g) (tt := hT X.K W0 rt) hc hN hy hyl hsw pi ok (fun s H C cl fp => (hg s H C cl fp).can) (fun s H C cl fp => (ht s H C cl fp).can) (fun s H C cl fp => (he s H C cl fp).can) hs, ⟨fun Dd G H S σV σ Dh eo k s h => ?_⟩⟩
  exact (ev_lcM ei hj).run _ G H S σV σ _ _ (eo.wok s) k s h fun d S' G' H' v hd k' f r => eo.nx.go _ S' G' H' _ hd k' f ((s.mono f.g).set i r)
end
/-! ### the rule of a def -/
def dstart (N : List Str) (ds : List D) : DSt := ds.map some ++ List.replicate (N.length - ds.length) none
def dends (Q : DK) (E : DEr) : DEnds := ⟨fun _ S => Q .non S, Q, fun _ _ => False, fun _ _ => False, fun C d _ S => E C d S⟩
theorem sl_start {K : PySem.W.Frag} {G : Hp} {N : List Str} {vs : List V} {ds : List D} (r : RepL K G vs ds) : Sl K G (L2.start N vs) (dstart N ds) := by
  have l := r.length
  refine ⟨by simp [L2.start, dstart, l], fun i d h => ?_⟩
  unfold dstart at h
  unfold L2.start
  by_cases c : i < ds.length
  · rw [List.getElem?_append_left (by simpa using c), List.getElem?_map] at h
    rw [List.getElem?_append_left (by simp [l]; exact c), List.getElem?_map]
    cases q : ds[i]? with
    | none => rw [q] at h; cases h
    | some d' =>
      rw [q] at h; cases h
      obtain ⟨v, h1, h2⟩ := r.get q
      exact ⟨v, by rw [h1]; rfl, h2⟩
  · rw [List.getElem?_append_right (by simp; omega)] at h
    have := List.mem_of_getElem? h
    rw [List.mem_replicate] at this
    cases this.2
section
variable {P : Program} {w : World} {K : PySem.W.Frag} {mg : Str → Option Value} {base : Heap}
theorem okD {x qual : Str} {st : Stmt} {f : Addr} {fd : FuncData} {N ps : List Str} {k : Nat} {sp : DSp} (F : Fun K x qual st f fd) (Sc : FnScope N ps (defScope st)) (len : ∀ ds S Q E, sp ds S Q E → ds.length = ps.length)
    (hbody : ∀ (cdv : Value) (A : Around) (outer : List Env) (s : Shared) (H : Hp) (E : XK), Room k (A.deeper (envOfC qual (defScope st) s.heap.objs.size f cdv)) →
      ∃ r, DSs (cxOf (L2.CX P w) P w K mg base N qual (defScope st) f cdv A outer s H E) (fun cls d _ H' => E cls d H') (defBody st) r ∧ ∀ ds S Q E', sp ds S Q E' → r (dends Q E') (dstart N ds) S) :
    FnOk P w K mg base (L2.CX P w) (k + 1) f fd ps (lift K sp) := by
  refine F.okX Sc (fun vs H Q E h => ?_) fun cdv A outer s H vs Q E hr hsp => ?_
  · obtain ⟨G, S, ds, Qd, Ed, _, r, hs, _⟩ := h
    rw [r.length, len ds S Qd Ed hs]
  · obtain ⟨r, ⟨t, p, ev⟩, hpure⟩ := hbody cdv A outer s H E hr
    obtain ⟨G, S, ds, Qd, Ed, kk, rp, hs, hQ, hE⟩ := hsp
    refine ⟨t, p, ev.run (dends Qd Ed) G H S (L2.start N vs) (dstart N ds) _ ⟨⟨fun σ' S' G' H' σV' q k' f s' => hQ .non S' G' H' .non q k' f .non⟩, fun d S' G' H' v q k' f r' => hQ d S' G' H' v q k' f r', ⟨fun _ _ _ _ _ q => q.elim⟩, ⟨fun _ _ _ _ _ q => q.elim⟩, fun C d σ' S' G' H' σV' q k' f s' => hE C d S' G' H' q k' f⟩ kk (sl_start rp) (hpure ds S Qd Ed hs)⟩
end
end KD

set_option maxRecDepth 100000
set_option maxHeartbeats 4000000
/-! Kd4: operators, comparisons, subscripts, slices, built-ins. -/
namespace KD
open PySem PySem.Spec PyProof.Rows L2
section
variable {X : Cx} {W : WX} {K : PySem.W.Frag} {a b c e : Expr} {ra rb rc : DTE} {pos : Pos}
/-! ### ints -/
def dI0 (g : Int → Int → D) : D → D → Sto → DK → Prop := fun x y S Q => match x, y with
  | .int i, .int j => Q (g i j) S
  | _, _ => False
def dI (C : Int → Int → Prop) (g : Int → Int → D) : D → D → Sto → DK → Prop := fun x y S Q => match x, y with
  | .int i, .int j => C i j ∧ Q (g i j) S
  | _, _ => False
theorem rv_I {C : Int → Int → Prop} {g : Int → Int → V} {g' : Int → Int → D} (hg : ∀ i j G, Rep K G (g i j) (g' i j)) : RvD K (rI C g) (dI C g') := ⟨fun G H S x y v u Q P k r1 r2 h p => by
  unfold dI at h
  split at h
  · cases r1; cases r2
    exact ⟨_, _, rfl, rfl, h.1, p _ S G H _ h.2 k (.refl _ _ _) (hg _ _ G)⟩
  · exact h.elim⟩
theorem rv_I0 {g : Int → Int → V} {g' : Int → Int → D} (hg : ∀ i j G, Rep K G (g i j) (g' i j)) : RvD K (rI0 g) (dI0 g') := ⟨fun G H S x y v u Q P k r1 r2 h p => by
  unfold dI0 at h
  split at h
  · cases r1; cases r2
    exact ⟨_, _, rfl, rfl, p _ S G H _ h k (.refl _ _ _) (hg _ _ G)⟩
  · exact h.elim⟩
theorem op_mulK : OpR X (binaryOp .Mult) (rI IntMulOk fun i j => .int (i * j)) := opI fun _ _ _ _ _ _ _ hc q => mul_int q hc
def dSub := dI0 fun i j => .int (i - j)
theorem dop_sub : DOp X (binaryOp .Sub) dSub := ⟨_, op_sub, rv_I0 fun _ _ _ => .int _⟩
def dMod := dI (fun _ j => 0 < j) fun i j => .int (i % j)
theorem dop_mod : DOp X (binaryOp .Mod) dMod := ⟨_, op_mod, rv_I fun _ _ _ => .int _⟩
def dFdiv := dI CDivW fun i j => .int (i / j)
theorem dop_fdiv : DOp X (binaryOp .FloorDiv) dFdiv := ⟨_, op_fdivW, rv_I fun _ _ _ => .int _⟩
def dPow := dI CPow fun i j => .int (i ^ j.toNat)
theorem dop_pow : DOp X (binaryOp .Pow) dPow := ⟨_, op_pow, rv_I fun _ _ _ => .int _⟩
def dXor := dI0 fun i j => .int (Builtin.bitXor i j)
theorem dop_xor : DOp X (binaryOp .BitXor) dXor := ⟨_, op_xor, rv_I0 fun _ _ _ => .int _⟩
def dMulI := dI IntMulOk fun i j => .int (i * j)
theorem dop_mulI : DOp X (binaryOp .Mult) dMulI := ⟨_, op_mulK, rv_I fun _ _ _ => .int _⟩
def dAddI := dI0 fun i j => .int (i + j)
theorem dop_addI : DOp X (binaryOp .Add) dAddI := ⟨_, op_add, rv_I0 fun _ _ _ => .int _⟩
def dLt := dI0 fun i j => .bl (decide (i < j))
theorem dop_lt : DOp X (compareOp .Lt) dLt := ⟨_, op_lt, rv_I0 fun _ _ _ => .bl _⟩
def dLe := dI0 fun i j => .bl (decide (i ≤ j))
theorem dop_le : DOp X (compareOp .LtE) dLe := ⟨_, op_le, rv_I0 fun _ _ _ => .bl _⟩
def dGt := dI0 fun i j => .bl (decide (j < i))
theorem dop_gt : DOp X (compareOp .Gt) dGt := ⟨_, op_gt, rv_I0 fun _ _ _ => .bl _⟩
def dGe := dI0 fun i j => .bl (decide (j ≤ i))
theorem dop_ge : DOp X (compareOp .GtE) dGe := ⟨_, op_ge, rv_I0 fun _ _ _ => .bl _⟩
/-! ### + of anything, * of a sequence -/
def dAdd : D → D → Sto → DK → Prop := fun x y S Q => match vw S x, vw S y with
  | .int i, .int j => Q (.int (i + j)) S
  | .str i, .str j => i.length + j.length ≤ sizeLine ∧ Q (.str (i ++ j)) S
  | .lst xs, .lst ys => xs.length + ys.length ≤ sizeLine ∧ Q (.lst (xs ++ ys)) S
  | .tup xs, .tup ys => xs.length + ys.length ≤ sizeLine ∧ Q (.tup (xs ++ ys)) S
  | _, _ => False
theorem dop_add : DOp X (binaryOp .Add) dAdd := ⟨_, op_add.or (op_add_str.or (op_cat.or op_catA)), ⟨fun G H S x y v u Q P k r1 r2 h p => by
  unfold dAdd at h
  split at h
  · rename_i h1 h2
    rw [int_of r1 h1, int_of r2 h2]
    exact .inl ⟨_, _, rfl, rfl, p _ S G H _ h k (.refl _ _ _) (.int _)⟩
  · rename_i h1 h2
    rw [str_of r1 h1, str_of r2 h2]
    exact .inr (.inl ⟨_, _, rfl, rfl, h.1, p _ S G H _ h.2 k (.refl _ _ _) (.str _)⟩)
  · rename_i h1 h2
    obtain ⟨a1, vs, e1, q1, l1⟩ := seq_of k r1 h1
    obtain ⟨a2, us, e2, q2, l2⟩ := seq_of k r2 h2
    refine .inr (.inr (.inl ⟨a1, a2, vs, us, e1, e2, q1, q2, by rw [l1.length, l2.length]; exact h.1, fun q hq => ?_⟩))
    obtain ⟨k2, f2⟩ := k.newG (o := .lst (vs ++ us)) hq
    exact p _ S _ _ _ h.2 k2 f2 (.lst upd_same ((l1.append l2).mono f2.g))
  · rename_i h1 h2
    obtain ⟨a1, vs, e1, q1, l1, g1⟩ := tup_of k r1 h1
    obtain ⟨a2, us, e2, q2, l2, g2⟩ := tup_of k r2 h2
    refine .inr (.inr (.inr ⟨a1, a2, vs, us, e1, e2, q1.sq, q2.sq, by rw [l1.length, l2.length]; exact h.1, fun z => ?_, fun z1 z2 => ?_, fun _ _ q hq => ?_⟩))
    · subst z; cases l1
      exact p _ S G H _ h.2 k (.refl _ _ _) (.tup g2 l2)
    · subst z2; cases l2
      have h2 := h.2
      rw [List.append_nil] at h2
      exact p _ S G H _ h2 k (.refl _ _ _) (.tup g1 l1)
    · obtain ⟨k2, f2⟩ := k.newG (o := .tup (vs ++ us)) hq
      exact p _ S _ _ _ h.2 k2 f2 (.tup (.inl upd_same) ((l1.append l2).mono f2.g))
  · exact h.elim⟩⟩
theorem repl_rep {G : Hp} {vs : List V} {xs : List D} (h : RepL K G vs xs) : ∀ n : Nat, RepL K G (List.replicate n vs).flatten (List.replicate n xs).flatten
  | 0 => .nil
  | n + 1 => by
    rw [List.replicate_succ, List.replicate_succ, List.flatten_cons, List.flatten_cons]
    exact h.append (repl_rep h n)
def dRep : D → D → Sto → DK → Prop := fun x y S Q => match vw S x, y with
  | .lst xs, .int k => -(2 ^ 63) ≤ k ∧ k < 2 ^ 63 ∧ xs.length * k.toNat ≤ sizeLine ∧ Q (.lst (List.replicate k.toNat xs).flatten) S
  | .tup xs, .int k => xs ≠ [] ∧ 2 ≤ k ∧ k ≤ 1000 ∧ xs.length ≤ 1000 ∧ Q (.tup (List.replicate k.toNat xs).flatten) S
  | _, _ => False
theorem dop_rep : DOp X (binaryOp .Mult) dRep := ⟨_, op_rep.or op_repT, ⟨fun G H S x y v u Q P k r1 r2 h p => by
  unfold dRep at h
  split at h
  · rename_i h1
    cases r2
    obtain ⟨a1, vs, e1, q1, l1⟩ := seq_of k r1 h1
    refine .inl ⟨a1, _, vs, e1, rfl, q1, h.1, h.2.1, by rw [l1.length]; exact h.2.2.1, fun q hq => ?_⟩
    obtain ⟨k2, f2⟩ := k.newG (o := .lst (List.replicate _ vs).flatten) hq
    exact p _ S _ _ _ h.2.2.2 k2 f2 (.lst upd_same ((repl_rep l1 _).mono f2.g))
  · rename_i h1
    cases r2
    obtain ⟨a1, vs, e1, q1, l1, g1⟩ := tup_of k r1 h1
    obtain ⟨z1, z2, z3, z4, z5⟩ := h
    refine .inr ⟨a1, _, vs, e1, rfl, q1.sq, fun z => ?_, z2, z3, by rw [l1.length]; exact z4, fun q hq => ?_⟩
    · subst z; cases l1; exact z1 rfl
    · obtain ⟨k2, f2⟩ := k.newG (o := .tup (List.replicate _ vs).flatten) hq
      exact p _ S _ _ _ z5 k2 f2 (.tup (.inl upd_same) ((repl_rep l1 _).mono f2.g))
  · exact h.elim⟩⟩
/-! ### == -/
inductive Sc where
  | non | bl (b : Bool) | int (i : Int) | str (x : Str)
  deriving DecidableEq
def scOf : D → Option Sc
  | .non => some .non | .bl b => some (.bl b) | .int i => some (.int i) | .str x => some (.str x)
  | _ => none
def Sc.v : Sc → V
  | .non => .non | .bl b => .bl b | .int i => .int i | .str x => .str x
theorem sc_rep {G : Hp} {v : V} {d : D} {s : Sc} (r : Rep K G v d) (h : scOf d = some s) : v = s.v := by
  cases d <;> simp only [scOf, reduceCtorEq, Option.some.injEq] at h <;> (subst h; cases r; rfl)
theorem sc_dec (s t : Sc) : decide (s.v = t.v) = decide (s = t) := by
  by_cases h : s = t
  · subst h; simp
  · have : s.v ≠ t.v := fun e => h (by cases s <;> cases t <;> simp [Sc.v] at e <;> first | rfl | (subst e; rfl))
    simp [h, this]
/-- of scalars, no bool against an int -/
def dEqS : D → D → Sto → DK → Prop := fun x y S Q => match scOf x, scOf y with
  | some s, some t => scal s.v t.v = true ∧ Q (.bl (decide (s = t))) S
  | _, _ => False
def dNeS : D → D → Sto → DK → Prop := fun x y S Q => match scOf x, scOf y with
  | some s, some t => scal s.v t.v = true ∧ Q (.bl (!decide (s = t))) S
  | _, _ => False
theorem dop_eqS : DOp X (compareOp .Eq) dEqS := ⟨_, op_eq, ⟨fun G H S x y v u Q P k r1 r2 h p => by
  unfold dEqS at h
  split at h
  · rename_i h1 h2
    rw [sc_rep r1 h1, sc_rep r2 h2]
    exact ⟨h.1, by rw [sc_dec]; exact p _ S G H _ h.2 k (.refl _ _ _) (.bl _)⟩
  · exact h.elim⟩⟩
theorem dop_neS : DOp X (compareOp .NotEq) dNeS := ⟨_, op_ne, ⟨fun G H S x y v u Q P k r1 r2 h p => by
  unfold dNeS at h
  split at h
  · rename_i h1 h2
    rw [sc_rep r1 h1, sc_rep r2 h2]
    exact ⟨h.1, by rw [sc_dec]; exact p _ S G H _ h.2 k (.refl _ _ _) (.bl _)⟩
  · exact h.elim⟩⟩
/-- of two ints -/
def dEqI := dI0 fun i j => .bl (decide (i = j))
def dNeI := dI0 fun i j => .bl (!decide (i = j))
theorem dop_eqI : DOp X (compareOp .Eq) dEqI := ⟨_, op_eq, ⟨fun G H S x y v u Q P k r1 r2 h p => by
  unfold dEqI dI0 at h
  split at h
  · cases r1; cases r2
    refine ⟨rfl, ?_⟩
    rw [dec_int, Bool.beq_eq_decide_eq]
    exact p _ S G H _ h k (.refl _ _ _) (.bl _)
  · exact h.elim⟩⟩
theorem dop_neI : DOp X (compareOp .NotEq) dNeI := ⟨_, op_ne, ⟨fun G H S x y v u Q P k r1 r2 h p => by
  unfold dNeI dI0 at h
  split at h
  · cases r1; cases r2
    refine ⟨rfl, ?_⟩
    rw [dec_int, Bool.beq_eq_decide_eq]
    exact p _ S G H _ h k (.refl _ _ _) (.bl _)
  · exact h.elim⟩⟩
/-! of data -/
mutual
def toPy : D → Option PyData
  | .non => some .none
  | .bl b => some (.bool b)
  | .int i => some (.int i)
  | .str x => some (.str x)
  | .lst xs => (toPyL xs).map .list
  | .tup xs => (toPyL xs).map .tuple
  | _ => none
def toPyL : List D → Option (List PyData)
  | [] => some []
  | d :: ds => match toPy d, toPyL ds with
    | some p, some ps => some (p :: ps)
    | _, _ => none
end
mutual
theorem dp_of {G H : Hp} (e : Ex G H) : ∀ {d : D} {v : V} {p : PyData}, Rep K G v d → toPy d = some p → Dp K H v p
  | .non, _, _, r, h => by simp only [toPy, Option.some.injEq] at h; subst h; cases r; exact .non
  | .bl b, _, _, r, h => by simp only [toPy, Option.some.injEq] at h; subst h; cases r; exact .bl b
  | .int i, _, _, r, h => by simp only [toPy, Option.some.injEq] at h; subst h; cases r; exact .int i
  | .str x, _, _, r, h => by simp only [toPy, Option.some.injEq] at h; subst h; cases r; exact .str x
  | .lst xs, _, _, r, h => by
    simp only [toPy, Option.map_eq_some_iff] at h
    obtain ⟨ps, h1, rfl⟩ := h
    cases r with
    | lst q l => exact .lst (.of (e _ _ q)) (dp_ofL e l h1)
  | .tup xs, _, _, r, h => by
    simp only [toPy, Option.map_eq_some_iff] at h
    obtain ⟨ps, h1, rfl⟩ := h
    cases r with
    | tup q l => exact .tup (q.mono e).sq (dp_ofL e l h1)
  | .dic _, _, _, _, h => by simp [toPy] at h
  | .ref _, _, _, _, h => by simp [toPy] at h
  | .scr _, _, _, _, h => by simp [toPy] at h
  | .ty _, _, _, _, h => by simp [toPy] at h
theorem dp_ofL {G H : Hp} (e : Ex G H) : ∀ {ds : List D} {vs : List V} {ps : List PyData}, RepL K G vs ds → toPyL ds = some ps → DpAll K H vs ps
  | [], _, _, r, h => by simp only [toPyL, Option.some.injEq] at h; subst h; cases r; exact .nil
  | d :: ds, _, _, r, h => by
    simp only [toPyL] at h
    split at h
    · rename_i h1 h2
      simp only [Option.some.injEq] at h
      subst h
      cases r with
      | cons r1 r2 => exact .cons (dp_of e r1 h1) (dp_ofL e r2 h2)
    · cases h
end
theorem dp_vw {G H : Hp} {S : Sto} {d : D} {v : V} {p : PyData} (k : Wok K G H S) (r : Rep K G v d) (h : toPy (vw S d) = some p) : Dp K H v p := by
  unfold vw at h
  split at h
  · rename_i q
    split at h
    · rename_i xs hs
      simp only [toPy, Option.map_eq_some_iff] at h
      obtain ⟨ps, h1, rfl⟩ := h
      cases r
      obtain ⟨_, vs, h2, h3⟩ := k.sto q _ hs
      exact .lst (.of h2) (dp_ofL k.ext h3 h1)
    · simp [toPy] at h
    · simp [toPy] at h
  · exact dp_of k.ext r h
def dEq : D → D → Sto → DK → Prop := fun x y S Q => ∃ p q, toPy (vw S x) = some p ∧ toPy (vw S y) = some q ∧ SeqAt.shaped p = true ∧ SeqAt.shaped q = true ∧ Q (.bl (PyData.eqv p q)) S
def dNe : D → D → Sto → DK → Prop := fun x y S Q => ∃ p q, toPy (vw S x) = some p ∧ toPy (vw S y) = some q ∧ SeqAt.shaped p = true ∧ SeqAt.shaped q = true ∧ Q (.bl (!PyData.eqv p q)) S
theorem dop_eq (hu : X.A.units + 64 < cLine) : DOp X (compareOp .Eq) dEq := ⟨_, op_eqD hu, ⟨fun G H S x y v u Q P k r1 r2 ⟨p, q, h1, h2, h3, h4, h5⟩ f => ⟨p, q, dp_vw k r1 h1, dp_vw k r2 h2, h3, h4, f _ S G H _ h5 k (.refl _ _ _) (.bl _)⟩⟩⟩
theorem dop_ne (hu : X.A.units + 64 < cLine) : DOp X (compareOp .NotEq) dNe := ⟨_, op_neD hu, ⟨fun G H S x y v u Q P k r1 r2 ⟨p, q, h1, h2, h3, h4, h5⟩ f => ⟨p, q, dp_vw k r1 h1, dp_vw k r2 h2, h3, h4, f _ S G H _ h5 k (.refl _ _ _) (.bl _)⟩⟩⟩
/-! ### is None -/
def isNon : D → Bool
  | .non => true
  | _ => false
theorem non_rep {G : Hp} {v : V} {d : D} (r : Rep K G v d) : decide (v = .non) = isNon d := by cases r <;> rfl
def dIsN (ra : DTE) : DTE := fun E σ S Q => ra E σ S fun d S' => Q (.bl (isNon d)) S'
def dNotN (ra : DTE) : DTE := fun E σ S Q => ra E σ S fun d S' => Q (.bl (!isNon d)) S'
theorem de_isN {j pos'} (ha : DE X W a ra) : DE X W (.Compare a [.Is] [.Constant .none j pos'] pos) (dIsN ra) := by
  obtain ⟨t, p, q⟩ := ha
  exact ⟨_, pe_cmp (pc_isN p), ⟨fun E G H S σV σ Q P w k s h f => q.run E G H S σV σ _ _ w k s h fun d S' G' H' v hd k' g r => by
    rw [non_rep r]; exact f _ S' G' H' _ hd k' g (.bl _)⟩⟩
theorem de_notN {j pos'} (ha : DE X W a ra) : DE X W (.Compare a [.IsNot] [.Constant .none j pos'] pos) (dNotN ra) := by
  obtain ⟨t, p, q⟩ := ha
  exact ⟨_, pe_cmp (pc_notN p), ⟨fun E G H S σV σ Q P w k s h f => q.run E G H S σV σ _ _ w k s h fun d S' G' H' v hd k' g r => by
    rw [non_rep r]; exact f _ S' G' H' _ hd k' g (.bl _)⟩⟩
/-! ### chains -/
theorem de_chain {op op' : CmpOp} {q q' : D → D → Sto → DK → Prop} (ho : DOp X (compareOp op) q) (ho' : DOp X (compareOp op') q') (ha : DE X W a ra) (hb : DE X W b rb) (hc : DE X W c rc)
    (hm : lastMarks [op, op'] [b, c] = false := by rfl) : DE X W (.Compare a [op, op'] [b, c] pos) (dChain q q' ra rb rc) := by
  obtain ⟨ta, pa, ea⟩ := ha
  obtain ⟨tb, pb, eb⟩ := hb
  obtain ⟨tc, pc, ec⟩ := hc
  obtain ⟨r, o, eo⟩ := ho
  obtain ⟨r', o', eo'⟩ := ho'
  refine ⟨_, pe_chain o o' pa pb pc hm, ⟨fun E G H S σV σ Q P w k s h p => ?_⟩⟩
  refine ea.run E G H S σV σ _ _ w k s h fun x S1 G1 H1 v h1 k1 f1 r1 => ?_
  refine eb.run E G1 H1 S1 σV σ _ _ (w.mono f1) k1 (s.mono f1.g) h1 fun y S2 G2 H2 u h2 k2 f2 r2 => ?_
  have f12 := f1.trans f2
  refine eo.run G2 H2 S2 x y v u _ _ k2 (r1.mono f2.g) r2 h2 fun d S3 G3 H3 z h3 k3 f3 r3 => ?_
  have f13 := f12.trans f3
  cases d with
  | bl m =>
    cases r3
    refine ⟨m, rfl, ?_⟩
    cases m with
    | true =>
      rw [if_pos rfl]
      have h3 : rc E σ S3 fun z S4 => q' y z S4 Q := h3
      refine ec.run E G3 H3 S3 σV σ _ _ (w.mono f13) k3 (s.mono f13.g) h3 fun z S4 G4 H4 t h4 k4 f4 r4 => ?_
      exact eo'.run G4 H4 S4 y z u t _ _ k4 (r2.mono (f3.trans f4).g) r4 h4 fun d' S5 G5 H5 z' h5 k5 f5 r5 => p d' S5 G5 H5 z' h5 k5 ((f13.trans f4).trans f5) r5
    | false =>
      rw [if_neg Bool.false_ne_true]
      exact p _ S3 G3 H3 _ h3 k3 f13 (.bl _)
  | _ => exact h3.elim
/-! ### subscripts -/
def dIxS : D → D → Sto → DK → Prop := fun x y S Q => match vw S x, y with
  | .lst xs, .int i => ∃ d, atI xs i = some d ∧ Q d S
  | .tup xs, .int i => ∃ d, atI xs i = some d ∧ Q d S
  | .scr ns, .int i => ∃ n, atI ns i = some n ∧ Q (.int n) S
  | .str z, .int i => z.length ≤ sizeLine ∧ ∃ c, atI z.cps.toList i = some c ∧ Q (.str ⟨#[c]⟩) S
  | _, _ => False
theorem atI_rep {G : Hp} {vs : List V} {xs : List D} {i : Int} {d : D} (l : RepL K G vs xs) (h : atI xs i = some d) : ∃ v, atI vs i = some v ∧ Rep K G v d := by
  unfold atI at h ⊢
  rw [l.length]
  cases e : ixN xs.length i with
  | none => rw [e] at h; cases h
  | some j =>
    rw [e] at h
    obtain ⟨v, h1, h2⟩ := l.get (i := j) (by simpa using h)
    exact ⟨v, by simpa using h1, h2⟩
theorem scr_of {G : Hp} {S : Sto} {v : V} {d : D} {ns : List Int} (r : Rep K G v d) (h : vw S d = .scr ns) : ∃ a, v = .ref a ∧ SqL K G a (ns.map V.int) := by
  unfold vw at h
  split at h
  · split at h <;> cases h
  · subst h
    cases r with
    | scr h => exact ⟨_, rfl, h⟩
theorem atI_map {ns : List Int} {i : Int} {n : Int} (h : atI ns i = some n) : atI (ns.map V.int) i = some (.int n) := by
  unfold atI at h ⊢
  rw [List.length_map]
  cases e : ixN ns.length i with
  | none => rw [e] at h; cases h
  | some j =>
    rw [e] at h
    have h : ns[j]? = some n := h
    show (ns.map V.int)[j]? = _
    rw [List.getElem?_map, h]; rfl
theorem dix_seq : DIx X dIxS := ⟨_, ix_seq, ⟨fun G H S x y v u Q P k r1 r2 h p => by
  unfold dIxS at h
  split at h
  · rename_i h1
    obtain ⟨d, h2, h3⟩ := h
    cases r2
    obtain ⟨a1, vs, e1, q1, l1⟩ := seq_of k r1 h1
    obtain ⟨v', h4, h5⟩ := atI_rep l1 h2
    exact .inl ⟨a1, vs, _, v', e1, rfl, .of q1, h4, p _ S G H _ h3 k (.refl _ _ _) h5⟩
  · rename_i h1
    obtain ⟨d, h2, h3⟩ := h
    cases r2
    obtain ⟨a1, vs, e1, q1, l1, _⟩ := tup_of k r1 h1
    obtain ⟨v', h4, h5⟩ := atI_rep l1 h2
    exact .inr (.inl ⟨a1, vs, _, v', e1, rfl, q1.sq, h4, p _ S G H _ h3 k (.refl _ _ _) h5⟩)
  · rename_i h1
    obtain ⟨d, h2, h3⟩ := h
    cases r2
    obtain ⟨a1, e1, q1⟩ := scr_of r1 h1
    exact .inl ⟨a1, _, _, _, e1, rfl, Evl.ex_l k.ext q1, atI_map h2, p _ S G H _ h3 k (.refl _ _ _) (.int _)⟩
  · rename_i h1
    obtain ⟨h0, c, h2, h3⟩ := h
    cases r2
    rw [str_of r1 h1]
    exact .inr (.inr ⟨_, _, _, rfl, rfl, h0, h2, p _ S G H _ h3 k (.refl _ _ _) (.str _)⟩)
  · exact h.elim⟩⟩
/-! ### slices -/
abbrev DTO := DEr → DSt → Sto → (Option Int → Sto → Prop) → Prop
structure EvO (K : PySem.W.Frag) (W : WX) (t : TO) (r : DTO) : Prop where
  run : ∀ (E : DEr) (G H : Hp) (S : Sto) (σV : L2.St) (σ : DSt) (Q : Option Int → Sto → Prop) (P : Option Int → Hp → Prop), WOk K W E σV G H S → Wok K G H S → Sl K G σV σ → r E σ S Q →
    (∀ b S' G' H', Q b S' → Wok K G' H' S' → Fr G H S G' H' S' → P b H') → t σV H P
def DO (X : Cx) (W : WX) (e : Option Expr) (r : DTO) : Prop := ∃ t, PO X e t ∧ EvO X.K W t r
def dNoPart : DTO := fun _ _ S Q => Q none S
def dPart (r : DTE) : DTO := fun E σ S Q => r E σ S fun d S' => match d with
  | .int i => Q (some i) S'
  | _ => False
theorem do_none : DO X W none dNoPart := ⟨_, po_none, ⟨fun E G H S σV σ Q P w k s h p => p _ S G H h k (.refl _ _ _)⟩⟩
theorem do_some (ha : DE X W a ra) : DO X W (some a) (dPart ra) := by
  obtain ⟨t, p, q⟩ := ha
  refine ⟨_, po_some p, ⟨fun E G H S σV σ Q P w k s h f => q.run E G H S σV σ _ _ w k s h fun d S' G' H' v hd k' g r => ?_⟩⟩
  cases d with
  | int i => cases r; exact ⟨i, rfl, f _ S' G' H' hd k' g⟩
  | _ => exact hd.elim
def cutD (xs : List D) (lo hi : Option Int) : List D := (xs.drop (HT.sIx xs.length 0 lo)).take (HT.sIx xs.length xs.length hi - HT.sIx xs.length 0 lo)
theorem cut_rep {G : Hp} {vs : List V} {xs : List D} (l : RepL K G vs xs) (lo hi : Option Int) : RepL K G (cutV vs lo hi) (cutD xs lo hi) := by
  unfold cutV cutD
  rw [l.length]
  exact (l.drop _).take _
theorem cut_whole {xs : List D} {lo hi : Option Int} (h : HT.sIx xs.length 0 lo = 0 ∧ HT.sIx xs.length xs.length hi = xs.length) : cutD xs lo hi = xs := by
  unfold cutD
  rw [h.1, h.2]
  simp
def dSlQ : D → Option Int → Option Int → Sto → DK → Prop := fun x lo hi S Q => match vw S x with
  | .lst xs => Q (.lst (cutD xs lo hi)) S
  | .tup xs => Q (.tup (cutD xs lo hi)) S
  | .str z => z.length ≤ sizeLine ∧ Q (.str (cutS z lo hi)) S
  | _ => False
def dSl (re : DTE) (rl rh : DTO) : DTE := fun E σ S Q => re E σ S fun x S1 => rl E σ S1 fun l S2 => rh E σ S2 fun u S3 => dSlQ x l u S3 Q
theorem de_slice {lo hi : Option Expr} {rl rh : DTO} {p2 : Pos} (he : DE X W e ra) (hl : DO X W lo rl) (hh : DO X W hi rh) : DE X W (.Subscript e (.Slice lo hi none p2) pos) (dSl ra rl rh) := by
  obtain ⟨t, p, q⟩ := he
  obtain ⟨tl, pl, ql⟩ := hl
  obtain ⟨th, ph, qh⟩ := hh
  refine ⟨_, pe_slice (sl_list.or (sl_tupA.or sl_str)) p pl ph, ⟨fun E G H S σV σ Q P w k s h f => ?_⟩⟩
  refine q.run E G H S σV σ _ _ w k s h fun x S1 G1 H1 v h1 k1 f1 r1 => ?_
  refine ql.run E G1 H1 S1 σV σ _ _ (w.mono f1) k1 (s.mono f1.g) h1 fun l S2 G2 H2 h2 k2 f2 => ?_
  have f12 := f1.trans f2
  refine qh.run E G2 H2 S2 σV σ _ _ (w.mono f12) k2 (s.mono f12.g) h2 fun u S3 G3 H3 h3 k3 f3 => ?_
  have f13 := f12.trans f3
  have r3 := r1.mono (f2.trans f3).g
  unfold dSlQ at h3
  split at h3
  · rename_i xs hx
    obtain ⟨a1, vs, e1, q1, l1⟩ := seq_of k3 r3 hx
    refine .inl ⟨a1, vs, e1, .of q1, fun n hn => ?_⟩
    obtain ⟨k4, f4⟩ := k3.newG (o := .lst (cutV vs l u)) hn
    exact f _ S3 _ _ _ h3 k4 (f13.trans f4) (.lst upd_same ((cut_rep l1 l u).mono f4.g))
  · rename_i xs hx
    obtain ⟨a1, vs, e1, q1, l1, g1⟩ := tup_of k3 r3 hx
    refine .inr (.inl ⟨a1, vs, e1, q1.sq, fun z => ?_, fun _ n hn => ?_⟩)
    · rw [l1.length] at z
      rw [cut_whole z] at h3
      exact f _ S3 _ _ _ h3 k3 f13 (.tup g1 l1)
    · obtain ⟨k4, f4⟩ := k3.newG (o := .tup (cutV vs l u)) hn
      exact f _ S3 _ _ _ h3 k4 (f13.trans f4) (.tup (.inl upd_same) ((cut_rep l1 l u).mono f4.g))
  · rename_i z hx
    rw [str_of r3 hx]
    exact .inr (.inr ⟨_, rfl, h3.1, f _ S3 _ _ _ h3.2 k3 f13 (.str _)⟩)
  · exact h3.elim
end
end KD

set_option maxRecDepth 100000
set_option maxHeartbeats 4000000
/-! KdE: enumerate and zip over lists, tuples and texts in any mix. -/
namespace PySem
set_option maxHeartbeats 1000000 in
theorem meets_enumerate_newB1 {v : Value} {o : Obj} {H : Heap → Prop} (B : Begins v o H) :
    Meets (Builtin.«enumerate.__new__» ⟨[.type "enumerate", v], []⟩) (fun _ R s => H s.heap ∧
      R (.ok (.ret (.ref (s.heap.push o).objs.size))) { s with heap := (s.heap.push o).push { cls := .type "enumerate", data := .fields #[.none, .bool false, .ref s.heap.objs.size, rawInt 0, .none, .none] } }) :=
  .of_wp fun prog w A R s h => by
    obtain ⟨hp, g, d, tk, os⟩ := s; obtain ⟨h1, h⟩ := h
    have hsub := sub_enumerate
    have q1 : ∀ {A' : Around} {E : Value → Shared → Prop} {Q : Value → Shared → Prop}, Q (.ref hp.objs.size) ⟨hp.push o, g, d, tk, os⟩ → wpAny (model prog w) A' (pyIter v) Q E ⟨hp, g, d, tk, os⟩ :=
      fun q => B.iter prog w _ _ ⟨hp, g, d, tk, os⟩ _ h1 q
    wp_walk using q1
    refine wpAny_stack_any fun st => wpAny_pure ?_
    split
    · rename_i c _ _ _ _ _
      cases (c == Value.type "enumerate")
      · wp_walk using q1
        exact ⟨_, rfl, h⟩
      · wp_walk using q1
        exact ⟨_, rfl, h⟩
    · wp_walk using q1
      exact ⟨_, rfl, h⟩
theorem enum1_begins {prog : Program} {w : World} {A : Around} {E : Value → Shared → Prop} {s : Shared} {v : Value} {o : Obj} {H : Heap → Prop} {Q : Value → Shared → Prop} (B : Begins v o H) (h1 : H s.heap)
    (h : ∀ h', IsEnum h' (s.heap.objs.size + 1) s.heap.objs.size 0 .none → h'.get? s.heap.objs.size = some o → h'.objs.size = s.heap.objs.size + 2 →
      (∀ b o, s.heap.get? b = some o → h'.get? b = some o) → Q (.ref (s.heap.objs.size + 1)) { s with heap := h' }) :
    wpAny (model prog w) A (call (.type "enumerate") [v]) Q E s := by
  refine callType_new F.called_enumerate (by decide) (F.typeCall_enumerate_1 _) (F.newCall_enumerate_1 _) (fun obj => F.args_object_init_2 obj _) F.entry_enumerate_new
    (meets_enumerate_newB1 B) ⟨h1, ?_⟩
  have hz : (s.heap.push o).objs.size = s.heap.objs.size + 1 := Heap.size_push ..
  show _ ∧ _
  rw [hz]
  have he : IsEnum ((s.heap.push o).push { cls := .type "enumerate", data := .fields #[.none, .bool false, .ref s.heap.objs.size, rawInt 0, .none, .none] }) (s.heap.objs.size + 1) s.heap.objs.size 0 .none := by
    have := Heap.get?_push_size (s.heap.push o) (o := { cls := .type "enumerate", data := .fields #[.none, .bool false, .ref s.heap.objs.size, rawInt 0, .none, .none] }) rfl
    rw [hz] at this; exact this
  refine ⟨⟨_, he, rfl⟩, h _ he (Heap.get?_push_of_some _ (Heap.get?_push_size _ B.free)) (by rw [Heap.size_push, hz]) fun b o x => Heap.get?_push_of_some _ (Heap.get?_push_of_some _ x)⟩
end PySem
namespace KD
open PySem PySem.Spec PyProof.Rows L2
/-- what an inner iterator walks -/
inductive SrcK where
  | lst (a : Addr) (vs : List V) | tup (a : Addr) (vs : List V) | str (z : Str)
def SrcK.n : SrcK → Nat
  | .lst _ vs => vs.length | .tup _ vs => vs.length | .str z => z.cps.size
def SrcK.get : SrcK → Nat → Option V
  | .lst _ vs, i => vs[i]? | .tup _ vs, i => vs[i]? | .str z, i => z.cps[i]?.map fun c => .str ⟨#[c]⟩
def SrcK.gd (K : PySem.W.Frag) : SrcK → Hp → Prop
  | .lst a vs, H => SqL K H a vs | .tup a vs, H => SqT K H a vs | .str _, _ => True
def SrcK.v : SrcK → V
  | .lst a _ => .ref a | .tup a _ => .ref a | .str z => .str z
/-- the inner iterator at it, at turn i -/
def SrcK.tn (k : SrcK) (it : Addr) (i : Nat) (h : Heap) : Prop := match k with
  | .lst a _ => h.IsListIter it a i
  | .tup a _ => h.IsTupleIter it a i
  | .str z => ∃ t, h.IsStrIter it (strIterType z) z t i
theorem SrcK.tn_obj {k : SrcK} {it : Addr} {i : Nat} {h : Heap} (t : k.tn it i h) : ∃ o, h.get? it = some o ∧ (∀ v, o.data ≠ .cell v) ∧ o.cls ≠ .type "list" ∧ o.cls ≠ .type "tuple" ∧ o.cls ≠ .type "enumerate" ∧ o.cls ≠ .type "zip" := by
  cases k with
  | lst a vs =>
    obtain ⟨o, ho, hc, hd⟩ := t
    exact ⟨o, ho, (by intro v q; rw [hd] at q; cases q), by rw [hc]; decide, by rw [hc]; decide, by rw [hc]; decide, by rw [hc]; decide⟩
  | tup a vs =>
    obtain ⟨o, ho, hc, hd⟩ := t
    exact ⟨o, ho, (by intro v q; rw [hd] at q; cases q), by rw [hc]; decide, by rw [hc]; decide, by rw [hc]; decide, by rw [hc]; decide⟩
  | str z =>
    obtain ⟨t, o, ho, hc, hd⟩ := t
    have e : strIterType z = "str_ascii_iterator" ∨ strIterType z = "str_iterator" := by unfold strIterType; split; exact .inl rfl; exact .inr rfl
    refine ⟨o, ho, (by intro v q; rw [hd] at q; cases q), ?_, ?_, ?_, ?_⟩ <;> (rcases e with e | e <;> rw [hc, e] <;> decide)
theorem SrcK.tn_keep {k : SrcK} {it : Addr} {i : Nat} {h h' : Heap} (t : k.tn it i h) (q : ∀ o, h.get? it = some o → h'.get? it = some o) : k.tn it i h' := by
  cases k with
  | lst a vs => exact Heap.IsListIter.at t q
  | tup a vs => exact Heap.IsTupleIter.at t q
  | str z => obtain ⟨t, o, ho, r⟩ := t; exact ⟨t, o, q o ho, r⟩
section
variable {X : Cx} {pins : List (Addr × Obj)} {σ : L2.St} {H : Hp} {s : Shared}
theorem SrcK.draws (k : SrcK) {A : Around} {it : Addr} {i : Nat} (I : Inv X pins σ H s) (g : k.gd X.K H) (t : k.tn it i s.heap) (hh : A.handled = none) :
    ∃ (fp : List Addr) (P : Nat → Value → Prop) (St : Nat → Heap → Prop), Draws X.prog X.w A it fp k.n P St ∧ St i s.heap ∧ (∀ j h, St j h → k.tn it j h) ∧ it ∈ fp ∧
      (∀ b ∈ fp, b = it ∨ ∃ o, s.heap.get? b = some o ∧ (o.cls = .type "list" ∨ o.cls = .type "tuple") ∧ ((H b).isSome = true ∨ X.K.lookup b = some o)) ∧ (∀ j x, P j x → ∃ v, k.get j = some v ∧ RelV v x) := by
  obtain ⟨o, ho, _, n1, n2, _⟩ := (SrcK.tn_obj t)
  cases k with
  | lst a vs =>
    obtain ⟨its, rv, p, hz⟩ := I.list g
    obtain ⟨oa, hoa, hca, _⟩ := id p.isList
    have ne : a ≠ it := fun e => by rw [e, ho] at hoa; cases hoa; exact n1 hca
    refine ⟨[it, a], fun i v => its.toArray[i]? = some v, fun i h => h.IsListIter it a i ∧ h.IsList a its.toArray, (by have := Draws.list (prog := X.prog) (w := X.w) hh it a ne its.toArray; rw [List.size_toArray, ← rv.length] at this; exact this), ⟨t, p.isList⟩, fun j h q => q.1, by simp, fun b hb => ?_, fun j x hp => ?_⟩
    · rcases (by simpa using hb : b = it ∨ b = a) with e | e
      · exact .inl e
      · refine .inr ⟨oa, by rw [e]; exact hoa, .inl hca, ?_⟩
        rw [e]
        rcases g with (g | ⟨_, g⟩) | ⟨ok, _, _, g, _⟩
        · exact .inl (by rw [g]; rfl)
        · exact .inl (by rw [g]; rfl)
        · have := I.kIn _ _ g
          rw [hoa] at this; cases this
          exact .inr g
    · have hp : its[j]? = some x := by simpa using hp
      cases e : vs[j]? with
      | none => rw [rv.none_of e] at hp; cases hp
      | some v =>
        obtain ⟨u, h1, h2⟩ := rv.get e
        rw [h1] at hp; cases hp
        exact ⟨v, e, h2⟩
  | tup a vs =>
    obtain ⟨its, rv, p, hz⟩ := I.tuple g
    obtain ⟨oa, hoa, hca, _⟩ := id p
    have ne : a ≠ it := fun e => by rw [e, ho] at hoa; cases hoa; exact n2 hca
    refine ⟨[it, a], fun i v => its.toArray[i]? = some v, fun i h => h.IsTupleIter it a i ∧ h.IsTuple a its.toArray, (by have := Draws.tuple (prog := X.prog) (w := X.w) hh it a ne its.toArray; rw [List.size_toArray, ← rv.length] at this; exact this), ⟨t, p⟩, fun j h q => q.1, by simp, fun b hb => ?_, fun j x hp => ?_⟩
    · rcases (by simpa using hb : b = it ∨ b = a) with e | e
      · exact .inl e
      · refine .inr ⟨oa, by rw [e]; exact hoa, .inr hca, ?_⟩
        rw [e]
        rcases g with (g | ⟨_, g⟩) | ⟨ok, _, _, g, _⟩
        · exact .inl (by rw [g]; rfl)
        · exact .inl (by rw [g]; rfl)
        · have := I.kIn _ _ g
          rw [hoa] at this; cases this
          exact .inr g
    · have hp : its[j]? = some x := by simpa using hp
      cases e : vs[j]? with
      | none => rw [rv.none_of e] at hp; cases hp
      | some v =>
        obtain ⟨u, h1, h2⟩ := rv.get e
        rw [h1] at hp; cases hp
        exact ⟨v, e, h2⟩
  | str z =>
    obtain ⟨tk, t⟩ := t
    refine ⟨_, _, _, Draws.text hh it z tk, t, fun j h q => ⟨tk, q⟩, by simp, fun b hb => .inl (by simpa using hb), fun j x hp => ?_⟩
    obtain ⟨c, u, h1, h2⟩ := hp
    refine ⟨.str ⟨#[c]⟩, ?_, ⟨u, h2⟩⟩
    show z.cps[j]?.map _ = _
    rw [h1]; rfl
theorem SrcK.begins (k : SrcK) {u : Value} (I : Inv X pins σ H s) (g : k.gd X.K H) (r : RelV k.v u) : ∃ (o : Obj) (B : Heap → Prop), Begins u o B ∧ B s.heap ∧ ∀ it h, h.get? it = some o → k.tn it 0 h := by
  cases k with
  | lst a vs =>
    obtain ⟨its, rv, p, hz⟩ := I.list g
    obtain rfl : u = .ref a := r
    exact ⟨_, _, begins_list a its.toArray, p.isList, fun it h e => ⟨_, e, rfl, rfl⟩⟩
  | tup a vs =>
    obtain ⟨its, rv, p, hz⟩ := I.tuple g
    obtain rfl : u = .ref a := r
    exact ⟨_, _, begins_tuple a its.toArray, p, fun it h e => ⟨_, e, rfl, rfl⟩⟩
  | str z =>
    obtain ⟨t, rfl⟩ := r
    exact ⟨_, _, begins_text z t, trivial, fun it h e => ⟨t, _, e, rfl, rfl⟩⟩
theorem fp_far {fp : List Addr} {b c : Addr} (I : Inv X pins σ H s) (hb : FpOk X pins H b) (hc : b ≠ c) (hf : ∀ q ∈ fp, q = c ∨ ∃ o, s.heap.get? q = some o ∧ (o.cls = .type "list" ∨ o.cls = .type "tuple") ∧ ((H q).isSome = true ∨ X.K.lookup q = some o)) : b ∉ fp := fun hm => by
  rcases hf b hm with e | ⟨o, ho, _, e | e⟩
  · exact hc e
  · rw [hb.1] at e; cases e
  · have hbase := I.ok.mod.kin b o e
    rcases hb.2.2.2.1 with z | z
    · exact I.ok.noex b o hbase z
    · have := Nat.lt_of_lt_of_le (Heap.lt_size hbase) I.ok.bsz
      exact absurd (Nat.lt_of_lt_of_le this z) (Nat.lt_irrefl _)
end
/-- enumerate(..) -/
def IteK (K : PySem.W.Frag) (k : SrcK) : It :=
  ⟨fun i H => k.gd K H ∧ i < k.n, fun i H v H' => ∃ T x, v = .ref T ∧ H T = none ∧ H' = upd H T (.tup [.int (i : Nat), x]) ∧ k.get i = some x, fun i H => k.gd K H ∧ i = k.n⟩
theorem turn_enumK {P : Program} {w : World} {K : PySem.W.Frag} {elts : List Expr} {kk : Nat} {tpos : Pos} (k : SrcK) (e it : Addr) :
    Turn P w K (.Tuple elts kk tpos) (IteK K k) [e, it] e (fun i h => (∃ old, IsEnum h e it ((i : Nat) : Int) old) ∧ k.tn it i h ∧ e ≠ it) where
  mem := by simp
  obj := fun i h st b hb => by
    obtain ⟨⟨old, he⟩, ht, _⟩ := st
    have e' : b = e ∨ b = it := by simpa using hb
    rcases e' with z | z
    · rw [z]; exact ⟨_, he, fun v q => nomatch q⟩
    · obtain ⟨o, ho, hd, _⟩ := (SrcK.tn_obj ht)
      rw [z]; exact ⟨o, ho, hd⟩
  keep := fun i h h' st q => let ⟨⟨old, he⟩, hi, hne⟩ := st; ⟨⟨old, q e (by simp) _ he⟩, SrcK.tn_keep hi fun o z => q it (by simp) o z, hne⟩
  item := by
    intro X hP hw hK hc i pins s σ H E I hf st hg
    subst hP hw hK
    obtain ⟨⟨old, he⟩, hit, hne⟩ := st
    obtain ⟨hgd, hlt⟩ := hg
    have hh : X.A.in1.handled = none := I.ok.hd hc
    obtain ⟨fp, PP, St, Dr, hSt, hS1, hifp, hfp, hPP⟩ := k.draws (A := X.A.in1) I hgd hit hh
    have hef : e ∉ fp := fp_far I (hf e (by simp)) hne hfp
    have hel : e < s.heap.objs.size := Heap.lt_size he
    have hil : it < s.heap.objs.size := by obtain ⟨_, q, _⟩ := (SrcK.tn_obj hit); exact Heap.lt_size q
    refine wpAny_pyNext_enum_itemD Dr he hSt hlt hne hef fun x h' tk hP ho hs' hT hsz hk => ?_
    obtain ⟨v, hv, rv⟩ := hPP i x hP
    refine ⟨_, rfl, wpAny_letOwnedTupleGo_enum (s := { s with heap := h', toks := tk + 1 }) ho fun h'' he' sb => ?_⟩
    have hT2 : h''.get? s.heap.objs.size = some { cls := .type "tuple", data := .seq #[.int i tk, x] } := (sb.2 _ (Nat.ne_of_gt hel)).trans hT
    have new : ObjOk X.prog X.w (upd H s.heap.objs.size (.tup [.int (i : Nat), v])) h'' s.heap.objs.size (.tup [.int (i : Nat), v]) :=
      ⟨by show 2 ≤ sizeLine; decide, [.int i tk, x], .cons ⟨_, rfl⟩ (.cons rv .nil), ⟨_, hT2, rfl, _, rfl⟩⟩
    have I1 : Inv X pins σ (upd H s.heap.objs.size (.tup [.int (i : Nat), v])) { s with heap := h'', toks := tk + 1 } :=
      I.turnedNew (ch := [e, it]) (fun b ob hb q => (sb.2 b (fun z => hb (by simp [z]))).trans (hk b ob (fun z => hb (by simp [z])) (fun z => hb (by simp [z])) q)) hf (Nat.le_refl _) new
    refine ⟨.ref s.heap.objs.size, _, I1, rfl, ⟨_, v, rfl, I.hok.fresh (Nat.le_refl _), rfl, hv⟩, ⟨⟨x, ?_⟩, SrcK.tn_keep (hS1 _ _ hs') fun o q => (sb.2 it (Ne.symm hne)).trans q, hne⟩, fun b hb => ?_⟩
    · have e1 : ((i + 1 : Nat) : Int) = (i : Int) + 1 := by omega
      rw [e1]; exact he'
    · have hb' : b < s.heap.objs.size := by
        have e' : b = e ∨ b = it := by simpa using hb
        rcases e' with z | z
        · rw [z]; exact hel
        · rw [z]; exact hil
      rw [upd_ne (Nat.ne_of_lt hb')]
      exact (hf b hb).1
  done := by
    intro X hP hw hK hc i pins s σ H E I hf st hg
    subst hP hw hK
    obtain ⟨⟨old, he⟩, hit, hne⟩ := st
    obtain ⟨hgd, rfl⟩ := hg
    have hh : X.A.in1.handled = none := I.ok.hd hc
    obtain ⟨fp, PP, St, Dr, hSt, hS1, hifp, hfp, hPP⟩ := k.draws (A := X.A.in1) I hgd hit hh
    obtain ⟨f0, f1, f2, f3, f4, f5⟩ := hf it (by simp)
    exact wpAny_pyNext_enum_endD Dr he hSt fun h' eb => ⟨rfl, I.turned (t' := s.toks) (fun b o hb q => eb b o hb q) f0 f1 f3 f4 f5⟩
  self := fun A i s Q E st h => let ⟨⟨_, he⟩, _⟩ := st; wpAny_pyIter_enum he h
theorem walk_enumK {K : PySem.W.Frag} (k : SrcK) : Walk (IteK K k) k.n (fun H => k.gd K H) (YPair (fun i => some (.int (i : Nat))) k.get) :=
  ⟨fun i _ hi q => ⟨q, hi⟩, fun _ q => ⟨q, rfl⟩, fun i H v H' _ q ⟨T, x, h1, h2, h3, h4⟩ => ⟨T, .int (i : Nat), x, h1, h2, h3, rfl, h4⟩⟩
def iEnumK (K : PySem.W.Frag) (ta : TA) : TI := fun σ H R => ta σ H fun vs H1 => ∃ k : SrcK, vs = [k.v] ∧ k.gd K H1 ∧ R (IteK K k) H1
theorem pi_enumK {X : Cx} {e : Expr} {ta : TA} {p pos tpos : Pos} {elts : List Expr} {kk : Nat} (hg : Gl X "enumerate") (hm : X.mg "enumerate" = none) (ha : PA X [e] ta) (hs : starEach [e] X.env = [(false, eval e X.env)] := by rfl) :
    PI X (.Tuple elts kk tpos) (.Call (.Name "enumerate" p) [e] [] pos) (iEnumK X.K ta) := by
  refine ⟨fun pins s σ H R I h => ?_⟩
  refine Call_ (ld_blt I hg hm boot_enumerate (PyProof.Rows.callWith_type1 (thn (ha.run pos pins s σ H _ I h) fun us s1 ⟨vs, H1, I1, r1, q1⟩ => ?_) hs rfl))
  obtain ⟨k, ex, hq, q⟩ := q1
  subst ex
  cases r1 with
  | cons r rr =>
    cases rr
    obtain ⟨o, B, Bg, hB, htn⟩ := k.begins I1 hq r
    refine enum1_begins Bg hB fun h' he hit hsz hk => wpAny_pyIter_enum he ?_
    have I2 : Inv X pins σ H1 { s1 with heap := h' } := I1.kept (t' := s1.toks) hk
    refine ⟨s1.heap.objs.size + 1, [s1.heap.objs.size + 1, s1.heap.objs.size], _, _, H1, rfl, I2, turn_enumK k (s1.heap.objs.size + 1) s1.heap.objs.size, ⟨⟨.none, he⟩, htn _ _ hit, Nat.succ_ne_self _⟩, fun b hb => ?_, q⟩
    have e' : b = s1.heap.objs.size + 1 ∨ b = s1.heap.objs.size := by simpa using hb
    have hle : s1.heap.objs.size ≤ b := by
      rcases e' with z | z
      · rw [z]; exact Nat.le_add_right _ _
      · rw [z]; exact Nat.le_refl _
    exact I1.fpOk hle (I1.hok.fresh hle)
end KD

set_option maxRecDepth 100000
set_option maxHeartbeats 4000000
/-! KdZ: zip over two sources of any kind. -/
namespace KD
open PySem PySem.Spec PyProof.Rows L2
structure ZSep (z TI TO i1 i2 : Addr) : Prop where
  a1 : TI ≠ z
  a2 : TO ≠ z
  a3 : TI ≠ TO
  a4 : TI ≠ i1
  a5 : TI ≠ i2
  a6 : z ≠ i1
  a7 : z ≠ i2
  a8 : TO ≠ i1
  a9 : TO ≠ i2
  b1 : i1 ≠ i2
def ItzK (K : PySem.W.Frag) (k l : SrcK) : It :=
  ⟨fun i H => (k.gd K H ∧ l.gd K H) ∧ i < k.n ∧ i < l.n, fun i H v H' => ∃ T x y, v = .ref T ∧ H T = none ∧ H' = upd H T (.tup [x, y]) ∧ k.get i = some x ∧ l.get i = some y, fun i H => (k.gd K H ∧ l.gd K H) ∧ i ≤ k.n ∧ i ≤ l.n ∧ (i = k.n ∨ i = l.n)⟩
def ZTn (k l : SrcK) (z TI TO i1 i2 : Addr) (i : Nat) (h : Heap) : Prop := IsZip h z TI TO .none ∧ IsTupOf2 h TI (.ref i1) (.ref i2) ∧ (∃ x y, IsTupOf2 h TO x y) ∧ k.tn i1 i h ∧ l.tn i2 i h
section
variable {X : Cx} {pins : List (Addr × Obj)} {σ : L2.St} {H : Hp} {s : Shared}
theorem zsep2 {z TI TO i1 i2 : Addr} {fp1 fp2 : List Addr} (D : ZSep z TI TO i1 i2) (I : Inv X pins σ H s) (hf : ∀ b ∈ [z, TI, TO, i1, i2], FpOk X pins H b)
    (m1 : i1 ∈ fp1) (m2 : i2 ∈ fp2) (h1 : ∀ q ∈ fp1, q = i1 ∨ ∃ o, s.heap.get? q = some o ∧ (o.cls = .type "list" ∨ o.cls = .type "tuple") ∧ ((H q).isSome = true ∨ X.K.lookup q = some o))
    (h2 : ∀ q ∈ fp2, q = i2 ∨ ∃ o, s.heap.get? q = some o ∧ (o.cls = .type "list" ∨ o.cls = .type "tuple") ∧ ((H q).isSome = true ∨ X.K.lookup q = some o)) : ZipSep2 z TI TO i1 i2 fp1 fp2 :=
  ⟨D.a1, D.a2, D.a3, D.a4, m1, fp_far I (hf z (by simp)) D.a6 h1, fp_far I (hf TO (by simp)) D.a8 h1, D.a5, m2, fp_far I (hf z (by simp)) D.a7 h2, fp_far I (hf TO (by simp)) D.a9 h2, fp_far I (hf i1 (by simp)) D.b1 h2, fp_far I (hf i2 (by simp)) (Ne.symm D.b1) h1⟩
end
theorem turn_zipK {P : Program} {w : World} {K : PySem.W.Frag} {elts : List Expr} {kk : Nat} {tpos : Pos} (k l : SrcK) {z TI TO i1 i2 : Addr} (D : ZSep z TI TO i1 i2) :
    Turn P w K (.Tuple elts kk tpos) (ItzK K k l) [z, TI, TO, i1, i2] z (ZTn k l z TI TO i1 i2) where
  mem := by simp
  obj := fun i h st c hc => by
    obtain ⟨hz, hTI, ⟨x, y, hTO⟩, t1, t2⟩ := st
    obtain ⟨o1, e1, d1, _⟩ := SrcK.tn_obj t1
    obtain ⟨o2, e2, d2, _⟩ := SrcK.tn_obj t2
    have e' : c = z ∨ c = TI ∨ c = TO ∨ c = i1 ∨ c = i2 := by simpa using hc
    rcases e' with q | q | q | q | q
    · rw [q]; exact ⟨_, hz, fun v q => nomatch q⟩
    · rw [q]; exact ⟨_, hTI, fun v q => nomatch q⟩
    · rw [q]; exact ⟨_, hTO, fun v q => nomatch q⟩
    · rw [q]; exact ⟨o1, e1, d1⟩
    · rw [q]; exact ⟨o2, e2, d2⟩
  keep := fun i h h' st q => by
    obtain ⟨hz, hTI, ⟨x, y, hTO⟩, t1, t2⟩ := st
    exact ⟨q z (by simp) _ hz, q TI (by simp) _ hTI, ⟨x, y, q TO (by simp) _ hTO⟩, SrcK.tn_keep t1 fun o e => q i1 (by simp) o e, SrcK.tn_keep t2 fun o e => q i2 (by simp) o e⟩
  item := by
    intro X hP hw hK hc i pins s σ H E I hf st hg
    subst hP hw hK
    obtain ⟨hz, hTI, ⟨x0, y0, hTO⟩, t1, t2⟩ := st
    obtain ⟨⟨g1, g2⟩, lt1, lt2⟩ := hg
    have hh : X.A.in1.handled = none := I.ok.hd hc
    obtain ⟨fp1, P1, S1, D1, st1, q1, m1, f1, p1⟩ := k.draws (A := X.A.in1) I g1 t1 hh
    obtain ⟨fp2, P2, S2, D2, st2, q2, m2, f2, p2⟩ := l.draws (A := X.A.in1) I g2 t2 hh
    have hzl : z < s.heap.objs.size := Heap.lt_size hz
    refine wpAny_pyNext_zipD2_item (zsep2 D I hf m1 m2 f1 f2) D1 D2 hz hTI hTO st1 st2 lt1 lt2 fun u u2 h' tk hp1 hp2 z' TO' st1' st2' hT hsz hk => ?_
    obtain ⟨x, hx, ru⟩ := p1 i u hp1
    obtain ⟨y, hy, ru2⟩ := p2 i u2 hp2
    refine ⟨_, rfl, wpAny_letOwnedTupleGo_zip (s := { s with heap := h', toks := tk }) z' fun h'' z'' sb => ?_⟩
    have hT2 : h''.get? s.heap.objs.size = some { cls := .type "tuple", data := .seq #[u, u2] } := (sb.2 _ (Nat.ne_of_gt hzl)).trans hT
    have new : ObjOk X.prog X.w (upd H s.heap.objs.size (.tup [x, y])) h'' s.heap.objs.size (.tup [x, y]) :=
      ⟨by show 2 ≤ sizeLine; decide, [u, u2], .cons ru (.cons ru2 .nil), ⟨_, hT2, rfl, _, rfl⟩⟩
    have I1 : Inv X pins σ (upd H s.heap.objs.size (.tup [x, y])) { s with heap := h'', toks := tk } :=
      I.turnedNew (t' := tk) (ch := [z, TI, TO, i1, i2]) (fun c o hb q => (sb.2 c (fun q' => hb (by simp [q']))).trans (hk c o (fun q' => hb (by simp [q'])) (fun q' => hb (by simp [q'])) (fun q' => hb (by simp [q'])) (fun q' => hb (by simp [q'])) q)) hf (Nat.le_refl _) new
    refine ⟨.ref s.heap.objs.size, _, I1, rfl, ⟨_, x, y, rfl, I.hok.fresh (Nat.le_refl _), rfl, hx, hy⟩, ⟨z'', ?_, ⟨u, u2, ?_⟩, ?_, ?_⟩, fun c hcm => ?_⟩
    · exact (sb.2 _ D.a1).trans (hk _ _ D.a1 D.a3 D.a4 D.a5 hTI)
    · exact (sb.2 _ D.a2).trans TO'
    · exact SrcK.tn_keep (q1 _ _ st1') fun o q => (sb.2 _ (Ne.symm D.a6)).trans q
    · exact SrcK.tn_keep (q2 _ _ st2') fun o q => (sb.2 _ (Ne.symm D.a7)).trans q
    · have hlt : c < s.heap.objs.size := by
        have e' : c = z ∨ c = TI ∨ c = TO ∨ c = i1 ∨ c = i2 := by simpa using hcm
        rcases e' with q | q | q | q | q
        · rw [q]; exact hzl
        · rw [q]; exact Heap.lt_size hTI
        · rw [q]; exact Heap.lt_size hTO
        · rw [q]; obtain ⟨_, e1, _⟩ := SrcK.tn_obj t1; exact Heap.lt_size e1
        · rw [q]; obtain ⟨_, e2, _⟩ := SrcK.tn_obj t2; exact Heap.lt_size e2
      rw [upd_ne (Nat.ne_of_lt hlt)]
      exact (hf c hcm).1
  done := by
    intro X hP hw hK hc i pins s σ H E I hf st hg
    subst hP hw hK
    obtain ⟨hz, hTI, ⟨x0, y0, hTO⟩, t1, t2⟩ := st
    obtain ⟨⟨g1, g2⟩, le1, le2, hend⟩ := hg
    have hh : X.A.in1.handled = none := I.ok.hd hc
    obtain ⟨fp1, P1, S1, D1, st1, q1, m1, f1, p1⟩ := k.draws (A := X.A.in1) I g1 t1 hh
    obtain ⟨fp2, P2, S2, D2, st2, q2, m2, f2, p2⟩ := l.draws (A := X.A.in1) I g2 t2 hh
    exact wpAny_pyNext_zipD2_end (zsep2 D I hf m1 m2 f1 f2) D1 D2 hz hTI hTO st1 st2 le1 le2 hend fun h' tk hk => ⟨rfl, I.turnedL (t' := tk) (ch := [z, TI, TO, i1, i2]) (fun c o hb q =>
      hk c o (fun q' => hb (by simp [q'])) (fun q' => hb (by simp [q'])) (fun q' => hb (by simp [q'])) (fun q' => hb (by simp [q'])) q) hf⟩
  self := fun A i s Q E st h => wpAny_pyIter_zip st.1 h
theorem walk_zipK {K : PySem.W.Frag} (k l : SrcK) : Walk (ItzK K k l) (min k.n l.n) (fun H => k.gd K H ∧ l.gd K H) (YPair k.get l.get) :=
  ⟨fun i _ hi q => ⟨q, by omega, by omega⟩, fun _ q => ⟨q, by omega, by omega, by omega⟩, fun i H v H' _ q y => y⟩
def iZipK (K : PySem.W.Frag) (ta : TA) : TI := fun σ H R => ta σ H fun vs H1 => ∃ k l : SrcK, vs = [k.v, l.v] ∧ (k.gd K H1 ∧ l.gd K H1) ∧ R (ItzK K k l) H1
theorem zsep_new {N : Nat} : ZSep (N + 4) (N + 2) (N + 3) N (N + 1) :=
  ⟨Nat.ne_of_lt (by omega), Nat.ne_of_lt (by omega), Nat.ne_of_lt (by omega), Nat.ne_of_gt (by omega), Nat.ne_of_gt (by omega), Nat.ne_of_gt (by omega), Nat.ne_of_gt (by omega), Nat.ne_of_gt (by omega), Nat.ne_of_gt (by omega), Nat.ne_of_lt (by omega)⟩
theorem pi_zipK {X : Cx} {e e2 : Expr} {ta : TA} {p pos tpos : Pos} {elts : List Expr} {kk : Nat} (hg : Gl X "zip") (hm : X.mg "zip" = none) (ha : PA X [e, e2] ta)
    (hs : starEach [e, e2] X.env = (false, eval e X.env) :: starEach [e2] X.env := by rfl) (hpl : (backTo pos (starEach [e2] X.env)).any (·.1) = false := by rfl) :
    PI X (.Tuple elts kk tpos) (.Call (.Name "zip" p) [e, e2] [] pos) (iZipK X.K ta) := by
  refine ⟨fun pins s σ H R I h => ?_⟩
  refine Call_ (ld_blt I hg hm PyProof.Rows.boot_zip (PyProof.Rows.callWith_type1 (thn (ha.run pos pins s σ H _ I h) fun us s1 ⟨vs, H1, I1, r1, q1⟩ => ?_) hs hpl))
  obtain ⟨k, l, ex, ⟨g1, g2⟩, q⟩ := q1
  subst ex
  cases r1 with
  | cons r rr =>
    cases rr with
    | cons r' rr =>
      cases rr
      obtain ⟨o1, B1, Bg1, hB1, tn1⟩ := k.begins I1 g1 r
      obtain ⟨o2, B2, Bg2, hB2, tn2⟩ := l.begins I1 g2 r'
      refine zip_begins2 Bg1 Bg2 hB1 hB2 fun h' hz hTI hTO h1 h2 hsz hk => wpAny_pyIter_zip hz ?_
      have I2 : Inv X pins σ H1 { s1 with heap := h' } := I1.kept (t' := s1.toks) hk
      refine ⟨s1.heap.objs.size + 4, [s1.heap.objs.size + 4, s1.heap.objs.size + 2, s1.heap.objs.size + 3, s1.heap.objs.size, s1.heap.objs.size + 1], _, _, H1, rfl, I2, turn_zipK k l zsep_new, ⟨hz, hTI, ⟨_, _, hTO⟩, tn1 _ _ h1, tn2 _ _ h2⟩, fun c hcm => ?_, q⟩
      have e' : c = s1.heap.objs.size + 4 ∨ c = s1.heap.objs.size + 2 ∨ c = s1.heap.objs.size + 3 ∨ c = s1.heap.objs.size ∨ c = s1.heap.objs.size + 1 := by simpa using hcm
      have hle : s1.heap.objs.size ≤ c := by
        rcases e' with z | z | z | z | z
        · rw [z]; exact Nat.le_add_right _ _
        · rw [z]; exact Nat.le_add_right _ _
        · rw [z]; exact Nat.le_add_right _ _
        · rw [z]; exact Nat.le_refl _
        · rw [z]; exact Nat.le_add_right _ _
      exact I1.fpOk hle (I1.hok.fresh hle)
end KD

set_option maxRecDepth 100000
set_option maxHeartbeats 4000000
/-! Kd5: walks as data, built-ins by name, isinstance, in, methods of built-in types, raise. -/
namespace KD
open PySem PySem.Spec PyProof.Rows L2
/-! ### sources -/
def signs (z : Str) : List D := z.cps.toList.map fun c => .str ⟨#[c]⟩
/-- the items of a datum that is walked -/
def itemsOf : D → Option (List D)
  | .lst xs => some xs
  | .tup xs => some xs
  | .str z => some (signs z)
  | .scr ns => some (ns.map .int)
  | _ => none
/-- how a datum is walked: its source, and its items stand for the source's -/
structure SrcD (K : PySem.W.Frag) (G : Hp) (v : V) (k : SrcK) (xs : List D) : Prop where
  v : k.v = v
  gd : ∀ H, Ex G H → k.gd K H
  n : k.n = xs.length
  get : ∀ i w, k.get i = some w → ∃ d, xs[i]? = some d ∧ Rep K G w d
section
variable {K : PySem.W.Frag} {G : Hp}
theorem src_of {v : V} {d : D} {xs : List D} (r : Rep K G v d) (h : itemsOf d = some xs) : ∃ k, SrcD K G v k xs := by
  cases d with
  | lst ys =>
    simp only [itemsOf, Option.some.injEq] at h; subst h
    cases r with
    | @lst a vs _ h1 h2 => exact ⟨.lst a vs, rfl, fun H e => .of (e _ _ h1), h2.length, fun i w hw => h2.get' hw⟩
  | tup ys =>
    simp only [itemsOf, Option.some.injEq] at h; subst h
    cases r with
    | @tup a vs _ h1 h2 => exact ⟨.tup a vs, rfl, fun H e => (h1.mono e).sq, h2.length, fun i w hw => h2.get' hw⟩
  | str z =>
    simp only [itemsOf, Option.some.injEq] at h; subst h
    cases r
    refine ⟨.str z, rfl, fun H e => trivial, by simp [SrcK.n, signs], fun i w hw => ?_⟩
    have hw : z.cps[i]?.map (fun c => V.str ⟨#[c]⟩) = some w := hw
    cases e : z.cps[i]? with
    | none => rw [e] at hw; cases hw
    | some c =>
      rw [e] at hw; cases hw
      refine ⟨.str ⟨#[c]⟩, ?_, .str _⟩
      unfold signs
      rw [List.getElem?_map, Array.getElem?_toList, e]; rfl
  | scr ns =>
    simp only [itemsOf, Option.some.injEq] at h; subst h
    cases r with
    | @scr a _ h1 =>
      refine ⟨.lst a (ns.map V.int), rfl, fun H e => Evl.ex_l e h1, by simp [SrcK.n], fun i w hw => ?_⟩
      have hw : (ns.map V.int)[i]? = some w := hw
      rw [List.getElem?_map] at hw
      cases e : ns[i]? with
      | none => rw [e] at hw; cases hw
      | some c =>
        rw [e] at hw; cases hw
        exact ⟨.int c, by rw [List.getElem?_map, e]; rfl, .int _⟩
  | _ => simp [itemsOf] at h
theorem src_mono {G' : Hp} {v : V} {k : SrcK} {xs : List D} (s : SrcD K G v k xs) (e : Ex G G') : SrcD K G' v k xs :=
  ⟨s.v, fun H e' => s.gd H (e.trans e'), s.n, fun i w h => let ⟨d, h1, h2⟩ := s.get i w h; ⟨d, h1, h2.mono e⟩⟩
theorem wlk_pair {H : Hp} {S : Sto} {J : It} {n : Nat} {Gd : Hp → Prop} {f g : Nat → Option V} {xs : List D} (wk : Walk J n Gd (YPair f g)) (hn : n = xs.length) (hG : ∀ H, Ex G H → Gd H)
    (hx : ∀ i a b, f i = some a → g i = some b → ∃ x y, xs[i]? = some (.tup [x, y]) ∧ Rep K G a x ∧ Rep K G b y) : Wlk K J xs G H S Gd (YPair f g) := by
  subst hn
  refine ⟨wk, fun G2 H2 S2 k2 f2 => hG H2 (f2.g.trans k2.ext), fun i G2 H2 S2 H3 v hi hY k2 f2 => ?_⟩
  obtain ⟨T, a, b, rfl, hT, rfl, ha, hb⟩ := hY
  obtain ⟨x, y, hxy, ra, rb⟩ := hx i a b ha hb
  obtain ⟨k3, f3⟩ := k2.newG (o := .tup [a, b]) hT
  exact ⟨_, _, hxy, k3, f3, .tup (.inl upd_same) (.cons (ra.mono (f2.trans f3).g) (.cons (rb.mono (f2.trans f3).g) .nil))⟩
/-- the walk of one source -/
def SrcK.J (K : PySem.W.Frag) : SrcK → It
  | .lst a _ => Itl K a | .tup a _ => Itt K a | .str z => Its z
theorem SrcK.walk (k : SrcK) : Walk (k.J K) k.n (fun H => k.gd K H) (fun i H x H' => H' = H ∧ k.get i = some x) := by
  cases k with
  | lst a vs => exact walk_list
  | tup a vs => exact walk_tup
  | str z =>
    exact (walk_str (z := z)).mono (fun _ _ => trivial) fun i H x H' _ _ ⟨h1, c, h2, h3⟩ => ⟨h1, by show z.cps[i]?.map _ = _; rw [h2, h3]; rfl⟩
theorem wlk_src {H : Hp} {S : Sto} {v : V} {k : SrcK} {xs : List D} (s : SrcD K G v k xs) : Wlk K (k.J K) xs G H S (fun H => k.gd K H) (fun i H x H' => H' = H ∧ k.get i = some x) := by
  refine ⟨by rw [← s.n]; exact k.walk, fun G2 H2 S2 k2 f2 => s.gd H2 (f2.g.trans k2.ext), fun i G2 H2 S2 H3 w hi hY k2 f2 => ?_⟩
  obtain ⟨rfl, hw⟩ := hY
  obtain ⟨d, h1, h2⟩ := s.get i w hw
  exact ⟨G2, d, h1, k2, .refl _ _ _, h2.mono f2.g⟩
end
section
variable {X : Cx} {W : WX} {K : PySem.W.Frag} {a b c e : Expr} {ra rb rc : DTE} {pos : Pos} {tg : Expr}
/-! ### walks -/
theorem pi_src {e : Expr} {tl : TE} (hl : PE X e tl) : PI X tg e (fun σ H R => tl σ H fun x H1 => ∃ k : SrcK, x = k.v ∧ k.gd X.K H1 ∧ R (k.J X.K) H1) := by
  refine ⟨fun pins s σ H R I h => ?_⟩
  refine thn (hl.run pins s σ H _ I h) fun v s1 ⟨x, H1, I1, r1, k, hx, hq, q⟩ => ?_
  subst hx
  cases k with
  | lst a vs =>
    obtain rfl : v = .ref a := r1
    obtain ⟨its, rv, p, hz⟩ := I1.list hq
    refine wpAny_pyIter_list p.isList ?_
    refine ⟨s1.heap.objs.size, [s1.heap.objs.size], _, _, H1, rfl, I1.kept (t' := s1.toks) fun b o e => Heap.get?_push_of_some _ e, turn_list a _, ⟨_, Heap.get?_push_size _ rfl, rfl, rfl⟩, fun b hb => ?_, q⟩
    have e : b = s1.heap.objs.size := by simpa using hb
    subst e
    exact I1.fpOk (Nat.le_refl _) (I1.hok.fresh (Nat.le_refl _))
  | tup a vs =>
    obtain rfl : v = .ref a := r1
    obtain ⟨its, rv, p, hz⟩ := I1.tuple hq
    refine wpAny_pyIter_tuple (show s1.heap.IsTuple a its.toArray from p) ?_
    refine ⟨s1.heap.objs.size, [s1.heap.objs.size], _, _, H1, rfl, I1.kept (t' := s1.toks) fun b o e => Heap.get?_push_of_some _ e, turn_tuple a _, ⟨_, Heap.get?_push_size _ rfl, rfl, rfl⟩, fun b hb => ?_, q⟩
    have e : b = s1.heap.objs.size := by simpa using hb
    subst e
    exact I1.fpOk (Nat.le_refl _) (I1.hok.fresh (Nat.le_refl _))
  | str z =>
    obtain ⟨t, rfl⟩ := r1
    cases ha : z.cps.all (· < 128)
    · exact wpAny_pyIter_wide ha (pi_one (tk := s1.toks) I1 _ (turn_str _ z t "str_iterator" (.inr rfl)) ⟨_, Heap.get?_push_size _ rfl, rfl, rfl⟩ q)
    · exact wpAny_pyIter_ascii ha (pi_one (tk := s1.toks) I1 _ (turn_str _ z t "str_ascii_iterator" (.inl rfl)) ⟨_, Heap.get?_push_size _ rfl, rfl, rfl⟩ q)
def dItems (r : DTE) : DTI := fun E σ S Q => r E σ S fun d S' => match itemsOf d with
  | some xs => Q xs S'
  | none => False
theorem di_seq (h : DE X W e ra) : DI X W tg e (dItems ra) := by
  obtain ⟨t, p, q⟩ := h
  refine ⟨_, pi_src p, ⟨fun E G H S σV σ Q R w k s h f => ?_⟩⟩
  refine q.run E G H S σV σ _ _ w k s h fun d S' G' H' v hd k' g r => ?_
  split at hd
  · rename_i xs hx
    obtain ⟨kk, sk⟩ := src_of r hx
    exact ⟨kk, sk.v.symm, sk.gd _ k'.ext, f xs S' G' H' _ _ _ hd k' g (wlk_src sk)⟩
  · exact hd.elim
def rangeD (lo : Int) (n : Nat) : List D := (List.range n).map fun i => .int (lo + (i : Nat))
theorem wlk_range {G H : Hp} {S : Sto} (lo : Int) (n : Nat) : Wlk K (Itr lo n) (rangeD lo n) G H S (fun _ => True) (YFn fun i => .int (lo + i)) := by
  refine ⟨by have := walk_range (lo := lo) (n := n); simpa [rangeD] using this, fun _ _ _ _ _ => trivial, fun i G2 H2 S2 H3 v hi hY k2 f2 => ?_⟩
  obtain ⟨rfl, rfl⟩ := hY
  refine ⟨G2, .int (lo + i), ?_, k2, .refl _ _ _, .int _⟩
  have hi : i < n := by simpa [rangeD] using hi
  simp [rangeD, hi]
def dRange1 (r : DTA) : DTI := fun E σ S Q => r E σ S fun ds S' => match ds with
  | [.int j] => -(2 ^ 62) ≤ j ∧ j < 2 ^ 62 ∧ Q (rangeD 0 j.toNat) S'
  | _ => False
theorem di_range1 {r : DTA} {p : Pos} (hg : Gl X "range") (hm : X.mg "range" = none) (ha : DA X W [a] r) (hs : starEach [a] X.env = [(false, eval a X.env)] := by rfl) : DI X W tg (.Call (.Name "range" p) [a] [] pos) (dRange1 r) := by
  obtain ⟨t, p, q⟩ := ha
  refine ⟨_, pi_range1 hg hm p hs, ⟨fun E G H S σV σ Q R w k s h f => ?_⟩⟩
  refine q.run E G H S σV σ _ _ w k s h fun ds S' G' H' vs hd k' g r => ?_
  match ds, vs, r, hd with
  | [.int j], _, .cons (.int _) .nil, hd => exact ⟨j, rfl, hd.1, hd.2.1, f _ S' G' H' _ _ _ hd.2.2 k' g (wlk_range 0 j.toNat)⟩
def dRange2 (r : DTA) : DTI := fun E σ S Q => r E σ S fun ds S' => match ds with
  | [.int i, .int j] => (-(2 ^ 62) ≤ i ∧ i < 2 ^ 62 ∧ -(2 ^ 62) ≤ j ∧ j < 2 ^ 62) ∧ Q (rangeD i (j - i).toNat) S'
  | _ => False
theorem di_range2 {r : DTA} {p : Pos} (hg : Gl X "range") (hm : X.mg "range" = none) (ha : DA X W [a, b] r) (hs : starEach [a, b] X.env = [(false, eval a X.env), (false, eval b X.env)] := by rfl) (hs2 : starEach [b] X.env = [(false, eval b X.env)] := by rfl) :
    DI X W tg (.Call (.Name "range" p) [a, b] [] pos) (dRange2 r) := by
  obtain ⟨t, p, q⟩ := ha
  refine ⟨_, pi_range2 hg hm p hs hs2, ⟨fun E G H S σV σ Q R w k s h f => ?_⟩⟩
  refine q.run E G H S σV σ _ _ w k s h fun ds S' G' H' vs hd k' g r => ?_
  match ds, vs, r, hd with
  | [.int i, .int j], _, .cons (.int _) (.cons (.int _) .nil), hd => exact ⟨i, j, rfl, hd.1, f _ S' G' H' _ _ _ hd.2 k' g (wlk_range i _)⟩
def enumD (xs : List D) : List D := (List.range xs.length).map fun i => .tup [.int (i : Nat), xs.getD i .non]
theorem enumD_get {xs : List D} {i : Nat} {d : D} (h : xs[i]? = some d) : (enumD xs)[i]? = some (.tup [.int (i : Nat), d]) := by
  obtain ⟨hi, e⟩ := List.getElem?_eq_some_iff.mp h
  simp [enumD, hi, e]
def dEnum (r : DTA) : DTI := fun E σ S Q => r E σ S fun ds S' => match ds with
  | [d] => match itemsOf d with
    | some xs => Q (enumD xs) S'
    | none => False
  | _ => False
theorem di_enum {r : DTA} {p tpos : Pos} {elts : List Expr} {kk : Nat} (hg : Gl X "enumerate") (hm : X.mg "enumerate" = none) (ha : DA X W [e] r) (hs : starEach [e] X.env = [(false, eval e X.env)] := by rfl) :
    DI X W (.Tuple elts kk tpos) (.Call (.Name "enumerate" p) [e] [] pos) (dEnum r) := by
  obtain ⟨t, p, q⟩ := ha
  refine ⟨_, pi_enumK hg hm p hs, ⟨fun E G H S σV σ Q R w k s h f => ?_⟩⟩
  refine q.run E G H S σV σ _ _ w k s h fun ds S' G' H' vs hd k' g r => ?_
  match ds, vs, r, hd with
  | [d], _, .cons r1 .nil, hd =>
    simp only at hd
    split at hd
    · rename_i xs hx
      obtain ⟨kk, sk⟩ := src_of r1 hx
      refine ⟨kk, by rw [sk.v], sk.gd _ k'.ext, f _ S' G' H' _ _ _ hd k' g (wlk_pair (walk_enumK kk) (by rw [sk.n]; simp [enumD]) sk.gd fun i a b ha hb => ?_)⟩
      cases ha
      obtain ⟨d, h1, h2⟩ := sk.get i b hb
      exact ⟨_, d, enumD_get h1, .int _, h2⟩
    · exact hd.elim
def zipD : List D → List D → List D
  | x :: xs, y :: ys => .tup [x, y] :: zipD xs ys
  | _, _ => []
theorem zipD_len : ∀ xs ys : List D, (zipD xs ys).length = min xs.length ys.length
  | [], _ => by simp [zipD]
  | _ :: _, [] => by simp [zipD]
  | x :: xs, y :: ys => by simp [zipD, zipD_len xs ys]
theorem zipD_get : ∀ {xs ys : List D} {i : Nat} {x y : D}, xs[i]? = some x → ys[i]? = some y → (zipD xs ys)[i]? = some (.tup [x, y])
  | [], _, i, _, _, h, _ => by simp at h
  | _ :: _, [], i, _, _, _, h => by simp at h
  | a :: xs, b :: ys, 0, _, _, h, h' => by simp at h h'; subst h h'; rfl
  | a :: xs, b :: ys, i + 1, _, _, h, h' => by
    have := zipD_get (xs := xs) (ys := ys) (i := i) (by simpa using h) (by simpa using h')
    simpa [zipD] using this
def dZip (r : DTA) : DTI := fun E σ S Q => r E σ S fun ds S' => match ds with
  | [d, d2] => match itemsOf d, itemsOf d2 with
    | some xs, some ys => Q (zipD xs ys) S'
    | _, _ => False
  | _ => False
theorem di_zip {r : DTA} {p tpos : Pos} {elts : List Expr} {kk : Nat} {e2 : Expr} (hg : Gl X "zip") (hm : X.mg "zip" = none) (ha : DA X W [e, e2] r)
    (hs : starEach [e, e2] X.env = (false, eval e X.env) :: starEach [e2] X.env := by rfl) (hpl : (backTo pos (starEach [e2] X.env)).any (·.1) = false := by rfl) :
    DI X W (.Tuple elts kk tpos) (.Call (.Name "zip" p) [e, e2] [] pos) (dZip r) := by
  obtain ⟨t, p, q⟩ := ha
  refine ⟨_, pi_zipK hg hm p hs hpl, ⟨fun E G H S σV σ Q R w k s h f => ?_⟩⟩
  refine q.run E G H S σV σ _ _ w k s h fun ds S' G' H' vs hd k' g r => ?_
  match ds, vs, r, hd with
  | [d, d2], _, .cons r1 (.cons r2 .nil), hd =>
    simp only at hd
    split at hd
    · rename_i xs ys hx hy
      obtain ⟨k1, s1⟩ := src_of r1 hx
      obtain ⟨k2, s2⟩ := src_of r2 hy
      refine ⟨k1, k2, by rw [s1.v, s2.v], ⟨s1.gd _ k'.ext, s2.gd _ k'.ext⟩, f _ S' G' H' _ _ _ hd k' g (wlk_pair (walk_zipK k1 k2) (by rw [s1.n, s2.n, zipD_len]) (fun H e => ⟨s1.gd H e, s2.gd H e⟩) fun i a b ha hb => ?_)⟩
      obtain ⟨x, h1, h2⟩ := s1.get i a ha
      obtain ⟨y, h3, h4⟩ := s2.get i b hb
      exact ⟨x, y, zipD_get h1 h3, h2, h4⟩
    · exact hd.elim
/-! ### built-ins by name -/
def dLen : List D → Sto → DK → Prop := fun ds S Q => match ds with
  | [d] => match vw S d with
    | .lst xs => Q (.int xs.length) S
    | .tup xs => Q (.int xs.length) S
    | .scr ns => Q (.int ns.length) S
    | .str z => z.length ≤ sizeLine ∧ Q (.int z.length) S
    | _ => False
  | _ => False
theorem one_of {G : Hp} {vs : List V} {d : D} (r : RepL K G vs [d]) : ∃ v, vs = [v] ∧ Rep K G v d := by
  match vs, r with
  | [v], .cons h .nil => exact ⟨v, rfl, h⟩
theorem dc_len : DC X (.builtin "len") dLen := ⟨_, call_len, ⟨fun G H S xs vs Q P k r h p => by
  unfold dLen at h
  split at h
  · rename_i d
    obtain ⟨v, rfl, r1⟩ := one_of r
    split at h
    · rename_i xs hx
      obtain ⟨a1, us, e1, q1, l1⟩ := seq_of k r1 hx
      refine ⟨v, xs.length, rfl, ?_, p _ S G H _ h k (.refl _ _ _) (.int _)⟩
      rw [e1]; exact .inl ⟨us, .of q1, l1.length.symm⟩
    · rename_i xs hx
      obtain ⟨a1, us, e1, q1, l1, _⟩ := tup_of k r1 hx
      refine ⟨v, xs.length, rfl, ?_, p _ S G H _ h k (.refl _ _ _) (.int _)⟩
      rw [e1]; exact .inr ⟨us, q1.sq, l1.length.symm⟩
    · rename_i ns hx
      obtain ⟨a1, e1, q1⟩ := scr_of r1 hx
      refine ⟨v, ns.length, rfl, ?_, p _ S G H _ h k (.refl _ _ _) (.int _)⟩
      rw [e1]; exact .inl ⟨_, Evl.ex_l k.ext q1, by simp⟩
    · rename_i z hx
      refine ⟨v, z.length, rfl, ?_, p _ S G H _ h.2 k (.refl _ _ _) (.int _)⟩
      rw [str_of r1 hx]; exact ⟨h.1, rfl⟩
    · exact h.elim
  · exact h.elim⟩⟩
/-- list(x): data -/
def dList1 : List D → Sto → DK → Prop := fun ds S Q => match ds with
  | [d] => match vw S d with
    | .lst xs => Q (.lst xs) S
    | .tup xs => Q (.lst xs) S
    | _ => False
  | _ => False
theorem dc_list : DC X (.type "list") dList1 := ⟨_, call_list_of, ⟨fun G H S xs vs Q P k r h p => by
  unfold dList1 at h
  split at h
  · rename_i d
    obtain ⟨v, rfl, r1⟩ := one_of r
    split at h
    · rename_i xs hx
      obtain ⟨a1, us, e1, q1, l1⟩ := seq_of k r1 hx
      refine ⟨a1, us, by rw [e1], .inl (.of q1), fun n hn => ?_⟩
      obtain ⟨k2, f2⟩ := k.newG (o := .lst us) hn
      exact p _ S _ _ _ h k2 f2 (.lst upd_same (l1.mono f2.g))
    · rename_i xs hx
      obtain ⟨a1, us, e1, q1, l1, _⟩ := tup_of k r1 hx
      refine ⟨a1, us, by rw [e1], .inr q1.sq, fun n hn => ?_⟩
      obtain ⟨k2, f2⟩ := k.newG (o := .lst us) hn
      exact p _ S _ _ _ h k2 f2 (.lst upd_same (l1.mono f2.g))
    · exact h.elim
  · exact h.elim⟩⟩
/-- list(x): it will change -/
def dListM : List D → Sto → DK → Prop := fun ds S Q => match ds with
  | [d] => match vw S d with
    | .lst xs => ∀ p, S p = none → Q (.ref p) (put S p (.lst xs))
    | .tup xs => ∀ p, S p = none → Q (.ref p) (put S p (.lst xs))
    | _ => False
  | _ => False
theorem dc_listM : DC X (.type "list") dListM := ⟨_, call_list_of, ⟨fun G H S xs vs Q P k r h p => by
  unfold dListM at h
  split at h
  · rename_i d
    obtain ⟨v, rfl, r1⟩ := one_of r
    split at h
    · rename_i xs hx
      obtain ⟨a1, us, e1, q1, l1⟩ := seq_of k r1 hx
      refine ⟨a1, us, by rw [e1], .inl (.of q1), fun n hn => ?_⟩
      obtain ⟨k2, f2⟩ := k.newS (o := .lst us) (m := .lst xs) hn ⟨us, upd_same, l1⟩
      exact p _ _ _ _ _ (h n (k.freeS hn)) k2 f2 (.ref n)
    · rename_i xs hx
      obtain ⟨a1, us, e1, q1, l1, _⟩ := tup_of k r1 hx
      refine ⟨a1, us, by rw [e1], .inr q1.sq, fun n hn => ?_⟩
      obtain ⟨k2, f2⟩ := k.newS (o := .lst us) (m := .lst xs) hn ⟨us, upd_same, l1⟩
      exact p _ _ _ _ _ (h n (k.freeS hn)) k2 f2 (.ref n)
    · exact h.elim
  · exact h.elim⟩⟩
def dTuple1 : List D → Sto → DK → Prop := fun ds S Q => match ds with
  | [d] => match vw S d with
    | .lst xs => Q (.tup xs) S
    | .tup xs => Q (.tup xs) S
    | _ => False
  | _ => False
theorem dc_tuple : DC X (.type "tuple") dTuple1 := ⟨_, call_tuple_of, ⟨fun G H S xs vs Q P k r h p => by
  unfold dTuple1 at h
  split at h
  · rename_i d
    obtain ⟨v, rfl, r1⟩ := one_of r
    split at h
    · rename_i xs hx
      obtain ⟨a1, us, e1, q1, l1⟩ := seq_of k r1 hx
      refine ⟨a1, us, by rw [e1], .inl ⟨.of q1, fun n hn => ?_⟩⟩
      obtain ⟨k2, f2⟩ := k.newG (o := .tup us) hn
      exact p _ S _ _ _ h k2 f2 (.tup (.inl upd_same) (l1.mono f2.g))
    · rename_i xs hx
      obtain ⟨a1, us, e1, q1, l1, g1⟩ := tup_of k r1 hx
      exact ⟨a1, us, by rw [e1], .inr ⟨q1.sq, p _ S G H _ h k (.refl _ _ _) (.tup g1 l1)⟩⟩
    · exact h.elim
  · exact h.elim⟩⟩
def dInt1 : List D → Sto → DK → Prop := fun ds S Q => match ds with
  | [.int i] => Q (.int i) S
  | [.bl b] => Q (.int (if b then 1 else 0)) S
  | _ => False
theorem dc_int : DC X (.type "int") dInt1 := ⟨_, call_int1, ⟨fun G H S xs vs Q P k r h p => by
  unfold dInt1 at h
  split at h
  · obtain ⟨v, rfl, r1⟩ := one_of r
    cases r1
    exact .inl ⟨_, rfl, p _ S G H _ h k (.refl _ _ _) (.int _)⟩
  · obtain ⟨v, rfl, r1⟩ := one_of r
    cases r1
    exact .inr ⟨_, rfl, p _ S G H _ h k (.refl _ _ _) (.int _)⟩
  · exact h.elim⟩⟩
theorem two_of {G : Hp} {vs : List V} {d d' : D} (r : RepL K G vs [d, d']) : ∃ v v', vs = [v, v'] ∧ Rep K G v d ∧ Rep K G v' d' := by
  match vs, r with
  | [v, v'], .cons h (.cons h' .nil) => exact ⟨v, v', rfl, h, h'⟩
def dMax2 : List D → Sto → DK → Prop := fun ds S Q => match ds with
  | [.int i, .int j] => Q (.int (if j > i then j else i)) S
  | _ => False
theorem dc_max2 (hc : X.calm = true) : DC X (.builtin "max") dMax2 := ⟨_, call_max2 hc, ⟨fun G H S xs vs Q P k r h p => by
  unfold dMax2 at h
  split at h
  · obtain ⟨v, v', rfl, r1, r2⟩ := two_of r
    cases r1; cases r2
    exact ⟨_, _, rfl, p _ S G H _ h k (.refl _ _ _) (.int _)⟩
  · exact h.elim⟩⟩
def dMin2 : List D → Sto → DK → Prop := fun ds S Q => match ds with
  | [.int i, .int j] => Q (.int (if j < i then j else i)) S
  | _ => False
theorem dc_min2 (hc : X.calm = true) : DC X (.builtin "min") dMin2 := ⟨_, call_min2 hc, ⟨fun G H S xs vs Q P k r h p => by
  unfold dMin2 at h
  split at h
  · obtain ⟨v, v', rfl, r1, r2⟩ := two_of r
    cases r1; cases r2
    exact ⟨_, _, rfl, p _ S G H _ h k (.refl _ _ _) (.int _)⟩
  · exact h.elim⟩⟩
/-- a list of ints, of bools -/
def intsOf : List D → Option (List Int)
  | [] => some []
  | .int i :: r => (intsOf r).map (i :: ·)
  | _ => none
theorem ints_rep {G : Hp} : ∀ {ds : List D} {ns : List Int} {vs : List V}, RepL K G vs ds → intsOf ds = some ns → vs = ns.map V.int
  | [], ns, _, r, h => by simp only [intsOf, Option.some.injEq] at h; subst h; cases r; rfl
  | d :: ds, ns, _, r, h => by
    cases r with
    | cons r1 r2 =>
      cases d <;> simp only [intsOf, reduceCtorEq, Option.map_eq_some_iff] at h
      obtain ⟨ms, h1, rfl⟩ := h
      cases r1
      rw [ints_rep r2 h1]; rfl
def blsOf : List D → Option (List Bool)
  | [] => some []
  | .bl i :: r => (blsOf r).map (i :: ·)
  | _ => none
theorem bls_rep {G : Hp} : ∀ {ds : List D} {ns : List Bool} {vs : List V}, RepL K G vs ds → blsOf ds = some ns → vs = ns.map V.bl
  | [], ns, _, r, h => by simp only [blsOf, Option.some.injEq] at h; subst h; cases r; rfl
  | d :: ds, ns, _, r, h => by
    cases r with
    | cons r1 r2 =>
      cases d <;> simp only [blsOf, reduceCtorEq, Option.map_eq_some_iff] at h
      obtain ⟨ms, h1, rfl⟩ := h
      cases r1
      rw [bls_rep r2 h1]; rfl
def dSum : List D → Sto → DK → Prop := fun ds S Q => match ds with
  | [d] => match vw S d with
    | .lst xs => ∃ ns, intsOf xs = some ns ∧ Q (.int ns.sum) S
    | _ => False
  | _ => False
theorem dc_sum (hc : X.calm = true) : DC X (.builtin "sum") dSum := ⟨_, cr_sum hc, ⟨fun G H S xs vs Q P k r h p => by
  unfold dSum at h
  split at h
  · obtain ⟨v, rfl, r1⟩ := one_of r
    split at h
    · rename_i xs hx
      obtain ⟨ns, h1, h2⟩ := h
      obtain ⟨a1, us, e1, q1, l1⟩ := seq_of k r1 hx
      refine ⟨a1, ns, by rw [e1], ?_, p _ S G H _ h2 k (.refl _ _ _) (.int _)⟩
      rw [← ints_rep l1 h1]; exact .of q1
    · exact h.elim
  · exact h.elim⟩⟩
def dAllB (f : List Bool → Bool) : List D → Sto → DK → Prop := fun ds S Q => match ds with
  | [d] => match vw S d with
    | .lst xs => ∃ ns, blsOf xs = some ns ∧ Q (.bl (f ns)) S
    | _ => False
  | _ => False
def dAll := dAllB fun bs => bs.all id
def dAny := dAllB fun bs => bs.any id
theorem dc_all (hc : X.calm = true) : DC X (.builtin "all") dAll := ⟨_, cr_all hc, ⟨fun G H S xs vs Q P k r h p => by
  unfold dAll dAllB at h
  split at h
  · obtain ⟨v, rfl, r1⟩ := one_of r
    split at h
    · rename_i xs hx
      obtain ⟨ns, h1, h2⟩ := h
      obtain ⟨a1, us, e1, q1, l1⟩ := seq_of k r1 hx
      refine ⟨a1, ns, by rw [e1], ?_, p _ S G H _ h2 k (.refl _ _ _) (.bl _)⟩
      rw [← bls_rep l1 h1]; exact .of q1
    · exact h.elim
  · exact h.elim⟩⟩
theorem dc_any (hc : X.calm = true) : DC X (.builtin "any") dAny := ⟨_, cr_any hc, ⟨fun G H S xs vs Q P k r h p => by
  unfold dAny dAllB at h
  split at h
  · obtain ⟨v, rfl, r1⟩ := one_of r
    split at h
    · rename_i xs hx
      obtain ⟨ns, h1, h2⟩ := h
      obtain ⟨a1, us, e1, q1, l1⟩ := seq_of k r1 hx
      refine ⟨a1, ns, by rw [e1], ?_, p _ S G H _ h2 k (.refl _ _ _) (.bl _)⟩
      rw [← bls_rep l1 h1]; exact .of q1
    · exact h.elim
  · exact h.elim⟩⟩
def dOrd : List D → Sto → DK → Prop := fun ds S Q => match ds with
  | [.str x] => x.length = 1 ∧ Q (.int (x.cps.getD 0 0 : Nat)) S
  | _ => False
theorem dc_ord : DC X (.builtin "ord") dOrd := ⟨_, call_ord, ⟨fun G H S xs vs Q P k r h p => by
  unfold dOrd at h
  split at h
  · obtain ⟨v, rfl, r1⟩ := one_of r
    cases r1
    exact ⟨_, rfl, h.1, p _ S G H _ h.2 k (.refl _ _ _) (.int _)⟩
  · exact h.elim⟩⟩
/-! ### isinstance -/
def tyN : D → Option String
  | .non => some "NoneType" | .bl _ => some "bool" | .int _ => some "int" | .str _ => some "str"
  | .lst _ => some "list" | .tup _ => some "tuple" | .dic _ => some "dict"
  | _ => none
theorem ty_vw {G H : Hp} {S : Sto} {v : V} {d : D} {n : String} (k : Wok K G H S) (r : Rep K G v d) (h : tyN (vw S d) = some n) : TyX K H v (.type n) := by
  unfold vw at h
  split at h
  · split at h
    · rename_i p _ xs hs
      simp only [tyN, Option.some.injEq] at h; subst h
      cases r
      obtain ⟨_, vs, h1, _⟩ := k.sto _ _ hs
      exact .base (.lst h1)
    · rename_i p _ xs hs
      simp only [tyN, Option.some.injEq] at h; subst h
      cases r
      obtain ⟨_, vs, h1, _⟩ := k.sto _ _ hs
      exact .base (.dK h1)
    · simp [tyN] at h
  · cases r with
    | non => simp only [tyN, Option.some.injEq] at h; subst h; exact .base .non
    | bl b => simp only [tyN, Option.some.injEq] at h; subst h; exact .base (.bl b)
    | int i => simp only [tyN, Option.some.injEq] at h; subst h; exact .base (.int i)
    | str x => simp only [tyN, Option.some.injEq] at h; subst h; exact .base (.str x)
    | ref a => simp [tyN] at h
    | ty n => simp [tyN] at h
    | lst h1 _ => simp only [tyN, Option.some.injEq] at h; subst h; exact .base (.lst (k.ext _ _ h1))
    | tup h1 _ =>
      simp only [tyN, Option.some.injEq] at h; subst h
      rcases h1 with h1 | ⟨o, _, _, h1, h2, _⟩
      · exact .base (.tup (k.ext _ _ h1))
      · exact .kTuple h1 h2
    | scr h1 => simp [tyN] at h
    | dic h1 _ => simp only [tyN, Option.some.injEq] at h; subst h; exact .base (.dK (k.ext _ _ h1))
/-- isinstance of the built-in types that data have -/
def isaT (a b : String) : Option Bool :=
  if b = "int" then some (a = "int" || a = "bool") else if b = "bool" then some (a = "bool") else if b = "str" then some (a = "str") else if b = "list" then some (a = "list")
  else if b = "tuple" then some (a = "tuple") else if b = "dict" then some (a = "dict") else none
theorem isa_kit {d : D} {a b : String} {r : Bool} (ha : tyN d = some a) (h : isaT a b = some r) : PySem.W.kitOne K (.type a) (.type b) = some r := by
  refine kit_ty ?_
  have key : ∀ a ∈ ["NoneType", "bool", "int", "str", "list", "tuple", "dict"], ∀ b ∈ ["int", "bool", "str", "list", "tuple", "dict"], kitB a b = isaT a b := by decide +kernel
  have h1 : a ∈ ["NoneType", "bool", "int", "str", "list", "tuple", "dict"] := by
    cases d <;> simp only [tyN, reduceCtorEq, Option.some.injEq] at ha <;> (subst ha; decide)
  have h2 : b ∈ ["int", "bool", "str", "list", "tuple", "dict"] := by
    unfold isaT at h
    repeat' split at h
    all_goals first | (rename_i e; subst e; decide) | (rename_i e _; subst e; decide) | (cases h)
  rw [key a h1 b h2]; exact h
def isaAny (a : String) : List D → Option Bool
  | [] => some false
  | .ty b :: r => match isaT a b, isaAny a r with
    | some x, some y => some (x || y)
    | _, _ => none
  | _ => none
def dIsi : List D → Sto → DK → Prop := fun ds S Q => match ds with
  | [d, .ty b] => match tyN (vw S d) with
    | some a => match isaT a b with
      | some r => Q (.bl r) S
      | none => False
    | none => False
  | [d, .tup cs] => match tyN (vw S d) with
    | some a => match isaAny a cs with
      | some r => Q (.bl r) S
      | none => False
    | none => False
  | _ => False
theorem isa_any {d : D} {a : String} (ha : tyN d = some a) {G : Hp} : ∀ {cs : List D} {r : Bool} {vs : List V}, RepL K G vs cs → isaAny a cs = some r → ∃ us, Paired ClsV vs us ∧ PySem.W.kitAny K (.type a) us = some r
  | [], r, _, rp, h => by
    simp only [isaAny, Option.some.injEq] at h; subst h; cases rp
    exact ⟨[], .nil, kitAny_nil⟩
  | c :: cs, r, _, rp, h => by
    cases rp with
    | cons r1 r2 =>
      cases c with
      | ty b =>
        simp only [isaAny] at h
        split at h
        · rename_i x y hx hy
          simp only [Option.some.injEq] at h; subst h
          cases r1
          obtain ⟨us, h1, h2⟩ := isa_any ha r2 hy
          refine ⟨_ :: us, .cons (.ty b) h1, kitAny_cons (isa_kit ha hx) (fun e => ?_) fun e => ?_⟩
          · subst e; simpa using h2
          · subst e; rfl
        · cases h
      | _ => simp [isaAny] at h
theorem dc_isi : DC X (.builtin "isinstance") dIsi := ⟨_, call_isi.or (call_isiT.or call_isiK), ⟨fun G H S xs vs Q P k r h p => by
  unfold dIsi at h
  split at h
  · obtain ⟨v, v', rfl, r1, r2⟩ := two_of r
    split at h
    · rename_i a ha
      split at h
      · rename_i b hb
        cases r2
        exact .inl ⟨_, _, _, _, b, rfl, .ty _, ty_vw k r1 ha, isa_kit ha hb, p _ S G H _ h k (.refl _ _ _) (.bl _)⟩
      · exact h.elim
    · exact h.elim
  · obtain ⟨v, v', rfl, r1, r2⟩ := two_of r
    split at h
    · rename_i a ha
      split at h
      · rename_i b hb
        cases r2 with
        | tup h1 h2 =>
          obtain ⟨us, q1, q2⟩ := isa_any ha h2 hb
          rcases h1 with h1 | h1
          · exact .inr (.inl ⟨v, _, _, _, us, b, rfl, k.ext _ _ h1, q1, ty_vw k r1 ha, q2, p _ S G H _ h k (.refl _ _ _) (.bl _)⟩)
          · obtain ⟨⟨c, dd, dt, sl⟩, its, n, h3, h4, h5, _, h6⟩ := h1
            simp only at h4 h5
            subst h4 h5
            have e := ClsV.all q1 h6
            refine .inr (.inr ⟨v, _, dd, us, n, sl, _, b, rfl, ?_, ty_vw k r1 ha, q2, p _ S G H _ h k (.refl _ _ _) (.bl _)⟩)
            rw [h3, ← e]
      · exact h.elim
    · exact h.elim
  · exact h.elim⟩⟩
theorem de_ty {x : Str} {n : String} {pos : Pos} (hg : Gl X x) (hm : X.mg x = none) (hv : bootBuiltins x = some (.type n)) (hn : x ≠ "__name__" := by decide) (hd : (x == ("__debug__" : Str)) = false := by decide) : DE X W (.Name x pos) (dC (.ty n)) :=
  ⟨_, pe_bltn (v := .ty n) hg hm hv rfl hn hd, ev_c fun _ => .ty n⟩
end
end KD

set_option maxRecDepth 100000
set_option maxHeartbeats 4000000
/-! Kd6: in, methods of built-in types, raise of own errors. -/
namespace KD
open PySem PySem.Spec PyProof.Rows L2
section
variable {X : Cx} {W : WX} {K : PySem.W.Frag} {a b c e : Expr} {ra rb rc : DTE} {pos : Pos} {tg : Expr}
/-! ### in -/
def flatD : D → Bool
  | .non => true | .bl _ => true | .int _ => true | .str _ => true
  | _ => false
def eqF : D → D → Bool
  | .non, .non => true
  | .bl a, .bl b => a == b
  | .bl a, .int b => (if a then 1 else 0) == b
  | .int a, .bl b => a == (if b then 1 else 0)
  | .int a, .int b => a == b
  | .str a, .str b => a == b
  | _, _ => false
theorem flat_rep {G : Hp} {v : V} {d : D} (r : Rep K G v d) (h : flatD d = true) : flatV v = true := by cases r <;> first | rfl | (simp [flatD] at h)
theorem eqF_rep {G : Hp} {v w : V} {d f : D} (r : Rep K G v d) (q : Rep K G w f) (h : flatD d = true) (h' : flatD f = true) : eqV v w = eqF d f := by
  cases r <;> first | (simp [flatD] at h; done) | (cases q <;> first | rfl | (simp [flatD] at h'))
theorem flat_all {G : Hp} : ∀ {vs : List V} {xs : List D}, RepL K G vs xs → xs.all flatD = true → vs.all flatV = true
  | [], _, r, h => by cases r; rfl
  | v :: vs, _, r, h => by
    cases r with
    | cons r1 r2 =>
      simp only [List.all_cons, Bool.and_eq_true] at h ⊢
      exact ⟨flat_rep r1 h.1, flat_all r2 h.2⟩
def inF (x : D) (xs : List D) : Bool := xs.any fun y => eqF y x
theorem inF_rep {G : Hp} {v : V} {x : D} (rx : Rep K G v x) (hx : flatD x = true) : ∀ {vs : List V} {xs : List D}, RepL K G vs xs → xs.all flatD = true → inV v vs = inF x xs
  | [], _, r, h => by cases r; rfl
  | w :: vs, _, r, h => by
    cases r with
    | cons r1 r2 =>
      simp only [List.all_cons, Bool.and_eq_true] at h
      show (eqV w v || inV v vs) = (eqF _ x || inF x _)
      rw [eqF_rep r1 rx h.1 hx, inF_rep rx hx r2 h.2]
def inStr (x z : Str) : Bool := !(Builtin.Str.occurrences z x 0 z.length 1).isEmpty
def dInB (neg : Bool) : D → D → Sto → DK → Prop := fun x y S Q => match vw S y with
  | .lst xs => flatD x = true ∧ xs.all flatD = true ∧ Q (.bl (if neg then !inF x xs else inF x xs)) S
  | .tup xs => flatD x = true ∧ xs.all flatD = true ∧ Q (.bl (if neg then !inF x xs else inF x xs)) S
  | .str z => match x with
    | .str s => Q (.bl (if neg then !inStr s z else inStr s z)) S
    | _ => False
  | _ => False
def dIn := dInB false
def dNotIn := dInB true
theorem rv_in {neg : Bool} {r : R2} (h1 : ∀ x y H Q, rIn X.K neg x y H Q → r x y H Q) (h2 : ∀ i j H (Q : VK), Q (.bl (if neg then !inStr i j else inStr i j)) H → r (.str i) (.str j) H Q) : RvD X.K r (dInB neg) := ⟨fun G H S x y v u Q P k r1 r2 h p => by
  unfold dInB at h
  split at h
  · rename_i xs hx
    obtain ⟨a1, us, e1, q1, l1⟩ := seq_of k r2 hx
    refine h1 _ _ _ _ ⟨a1, us, e1, .inl (.of q1), flat_rep r1 h.1, flat_all l1 h.2.1, ?_⟩
    rw [inF_rep r1 h.1 l1 h.2.1]
    exact p _ S G H _ h.2.2 k (.refl _ _ _) (.bl _)
  · rename_i xs hx
    obtain ⟨a1, us, e1, q1, l1, _⟩ := tup_of k r2 hx
    refine h1 _ _ _ _ ⟨a1, us, e1, .inr q1.sq, flat_rep r1 h.1, flat_all l1 h.2.1, ?_⟩
    rw [inF_rep r1 h.1 l1 h.2.1]
    exact p _ S G H _ h.2.2 k (.refl _ _ _) (.bl _)
  · rename_i z hz
    split at h
    · cases r1
      rw [str_of r2 hz]
      exact h2 _ _ _ _ (p _ S G H _ h k (.refl _ _ _) (.bl _))
    · exact h.elim
  · exact h.elim⟩
theorem dop_in : DOp X (compareOp .In) dIn := ⟨_, op_in_seq.or op_in_str, rv_in (fun _ _ _ _ h => .inl h) fun i j H Q h => .inr ⟨i, j, rfl, rfl, h⟩⟩
theorem dop_notIn : DOp X (compareOp .NotIn) dNotIn := ⟨_, op_notIn_seq.or op_notIn_str, rv_in (fun _ _ _ _ h => .inl h) fun i j H Q h => .inr ⟨i, j, rfl, rfl, by simpa [inStr] using h⟩⟩
/-! ### methods of built-in types -/
structure RmD (K : PySem.W.Frag) (r : V → List V → Hp → VK → Prop) (q : D → List D → Sto → DK → Prop) : Prop where
  run : ∀ (G H : Hp) (S : Sto) (x : D) (ys : List D) (v : V) (vs : List V) (Q : DK) (P : VK), Wok K G H S → Rep K G v x → RepL K G vs ys → q x ys S Q →
    (∀ d S' G' H' z, Q d S' → Wok K G' H' S' → Fr G H S G' H' S' → Rep K G' z d → P z H') → r v vs H P
def DM1 (X : Cx) (id : String) (q : D → List D → Sto → DK → Prop) : Prop := ∃ r, MtR X id r ∧ RmD X.K r q
def isTy (T : String) : D → Bool
  | .lst _ => T == "list"
  | .str _ => T == "str"
  | .dic _ => T == "dict"
  | _ => false
theorem tyV_of {G H : Hp} {S : Sto} {v : V} {d : D} {T : String} (k : Wok K G H S) (r : Rep K G v d) (h : isTy T (vw S d) = true) : tyV K T v H := by
  cases e : vw S d with
  | lst xs =>
    rw [e] at h
    obtain ⟨a1, us, e1, q1, l1⟩ := seq_of k r e
    rw [e1]
    exact .inl ⟨by simpa [isTy] using h, us, .of q1⟩
  | str z =>
    rw [e] at h
    rw [str_of r e]
    show T = "str"
    simpa [isTy] using h
  | dic kvs =>
    rw [e] at h
    have hT : T = "dict" := by simpa [isTy] using h
    unfold vw at e
    split at e
    · split at e
      · cases e
      · rename_i p _ xs hs
        cases r
        obtain ⟨_, vs, h1, _⟩ := k.sto _ _ hs
        exact .inr (.inr (.inl ⟨hT, .inl ⟨_, h1⟩⟩))
      · cases e
    · subst e
      cases r with
      | dic h1 _ => exact .inr (.inr (.inl ⟨hT, .inl ⟨_, k.ext _ _ h1⟩⟩))
  | _ => rw [e] at h; simp [isTy] at h
def dBM (T : String) (q : D → List D → Sto → DK → Prop) (ro : DTE) (r : DTA) : DTE := fun E σ S Q => ro E σ S fun x S1 => isTy T (vw S1 x) = true ∧ r E σ S1 fun ys S2 => q x ys S2 Q
def dBM0 (T : String) (q : D → List D → Sto → DK → Prop) (ro : DTE) : DTE := fun E σ S Q => ro E σ S fun x S1 => isTy T (vw S1 x) = true ∧ q x [] S1 Q
theorem de_bm {o : Expr} {es : List Expr} {ro : DTE} {r : DTA} {q : D → List D → Sto → DK → Prop} {name : Str} {apos cpos : Pos} {T id : String} (pa : PlainAttrs T) (slot : Slot T name id) (hty : typeOf (.builtin id) = pure (.type "method_descriptor")) (hm : DM1 X id q) (ho : DE X W o ro) (ha : DA X W (e :: es) r)
    (hbase : attributeBase o name X.env (eval o X.env) = eval o X.env := by rfl)
    (hfew : ((backTo cpos (starEach (e :: es) X.env)).all (fun x => !x.1) && (backToKw cpos (keywordEach [] X.env)).all (fun x => x.1.isSome)
      && decide ((e :: es).length + ([] : List Keyword).length + (if ([] : List Keyword).isEmpty then 0 else 1) < 30)) = true := by rfl)
    (hline : (apos.endLine == cpos.line) = true := by rfl) (hs : starEach (e :: es) X.env = (false, eval e X.env) :: starEach es X.env := by rfl) (hplain : (backTo cpos (starEach es X.env)).any (·.1) = false := by rfl) :
    DE X W (.Call (.Attribute o name apos) (e :: es) [] cpos) (dBM T q ro r) := by
  obtain ⟨to, po, eo⟩ := ho
  obtain ⟨t, p, ea⟩ := ha
  obtain ⟨rm, m, em⟩ := hm
  refine ⟨_, pe_bm pa slot hty m po p hbase hfew hline hs hplain, ⟨fun E G H S σV σ Q P w k s h f => ?_⟩⟩
  refine eo.run E G H S σV σ _ _ w k s h fun x S1 G1 H1 v h1 k1 f1 r1 => ⟨tyV_of k1 r1 h1.1, ?_⟩
  refine ea.run E G1 H1 S1 σV σ _ _ (w.mono f1) k1 (s.mono f1.g) h1.2 fun ys S2 G2 H2 vs h2 k2 f2 r2 => ?_
  exact em.run G2 H2 S2 x ys v vs Q P k2 (r1.mono f2.g) r2 h2 fun d S3 G3 H3 z h3 k3 f3 r3 => f d S3 G3 H3 z h3 k3 ((f1.trans f2).trans f3) r3
theorem de_bm0 {o : Expr} {ro : DTE} {q : D → List D → Sto → DK → Prop} {name : Str} {apos cpos : Pos} {T id : String} (pa : PlainAttrs T) (slot : Slot T name id) (hty : typeOf (.builtin id) = pure (.type "method_descriptor")) (hm : DM1 X id q) (ho : DE X W o ro)
    (hbase : attributeBase o name X.env (eval o X.env) = eval o X.env := by rfl) (hline : (apos.endLine == cpos.line) = true := by rfl) : DE X W (.Call (.Attribute o name apos) [] [] cpos) (dBM0 T q ro) := by
  obtain ⟨to, po, eo⟩ := ho
  obtain ⟨rm, m, em⟩ := hm
  refine ⟨_, pe_bm0 pa slot hty m po hbase hline, ⟨fun E G H S σV σ Q P w k s h f => ?_⟩⟩
  refine eo.run E G H S σV σ _ _ w k s h fun x S1 G1 H1 v h1 k1 f1 r1 => ⟨tyV_of k1 r1 h1.1, ?_⟩
  exact em.run G1 H1 S1 x [] v [] Q P k1 r1 .nil h1.2 fun d S3 G3 H3 z h3 k3 f3 r3 => f d S3 G3 H3 z h3 k3 (f1.trans f3) r3
def dAppend : D → List D → Sto → DK → Prop := fun x ys S Q => match x, ys with
  | .ref p, [y] => ∃ xs, S p = some (.lst xs) ∧ xs.length < sizeLine ∧ Q .non (put S p (.lst (xs ++ [y])))
  | _, _ => False
theorem dm_append : DM1 X "list.append" dAppend := ⟨_, mt_append, ⟨fun G H S x ys v vs Q P k r1 r2 h p => by
  unfold dAppend at h
  split at h
  · obtain ⟨xs, h1, h2, h3⟩ := h
    obtain ⟨y, rfl, ry⟩ := one_of r2
    cases r1
    obtain ⟨_, us, q1, q2⟩ := k.sto _ _ h1
    refine ⟨_, us, y, rfl, rfl, q1, by rw [q2.length]; exact h2, ?_⟩
    obtain ⟨k2, f2⟩ := k.chS (o := .lst (us ++ [y])) (m := .lst (xs ++ [_])) h1 ⟨_, upd_same, q2.append (.one ry)⟩
    exact p _ _ _ _ _ h3 k2 f2 .non
  · exact h.elim⟩⟩
/-- l.append(e) as the generator writes it -/
theorem de_append {o : Expr} {ro re : DTE} {apos cpos : Pos} (ho : DE X W o ro) (he : DE X W e re) (hbase : attributeBase o "append" X.env (eval o X.env) = eval o X.env := by rfl)
    (hfew : ((backTo cpos (starEach [e] X.env)).all (fun x => !x.1) && (backToKw cpos (keywordEach [] X.env)).all (fun x => x.1.isSome)
      && decide (([e] : List Expr).length + ([] : List Keyword).length + (if ([] : List Keyword).isEmpty then 0 else 1) < 30)) = true := by rfl)
    (hline : (apos.endLine == cpos.line) = true := by rfl) (hs : starEach [e] X.env = (false, eval e X.env) :: starEach [] X.env := by rfl) (hplain : (backTo cpos (starEach [] X.env)).any (·.1) = false := by rfl) :
    DE X W (.Call (.Attribute o "append" apos) [e] [] cpos) (dBM "list" dAppend ro (dCons re dNil)) :=
  de_bm PySem.F.plainAttrs_list PySem.F.slot_list_append PySem.F.type_list_append dm_append ho (da_cons he da_nil hs) hbase hfew hline hs hplain
end
/-! ### own errors -/
/-- what the module tells of an own error's class C whose __init__ at fI stores its arguments under the names ns -/
def spInit1 (K : PySem.W.Frag) (n : Str) : Sp := fun vs H Q _ => ∃ (a C : Addr) (y : V), vs = [.ref a, y] ∧ OexC K C ∧ PySem.W.findIn K (.ref C) n = some none ∧ H a = some (exo a C none) ∧ ∀ d, H d = none → d ≠ a → Q .non (upd (upd H d (exd d [(n, y)])) a (exo a C (some d)))
structure ErrC (K : PySem.W.Frag) (mg : Str → Option Value) (P : Program) (w : World) (base : Heap) (x : Str) (C : Addr) (n : Str) (ds : List Value) (dvs : List V) : Prop where
  gC : mg x = some (.ref C)
  oex : OexC K C
  hno : PySem.W.findIn K (.ref C) n = some none
  fn : ∃ (fI : Addr) (fd : FuncData) (ps : List Str), PySem.W.findIn K (.ref C) "__init__" = some (some (.ref fI)) ∧ PySem.W.typeIn K (.ref fI) = some (.type "function") ∧ FnOk P w K mg base (L2.CX P w) 1 fI fd ps (spInit1 K n) ∧ Binds K fd ps ds ∧ Vals dvs ds
section
variable {X : Cx} {W : WX} {K : PySem.W.Frag} {e : Expr} {re : DTE} {pos : Pos}
def dRaise1 (C : Addr) (n : Str) (r : DTA) : DTS := fun Z σ S => r (exOf Z σ) σ S fun ds S' => match ds with
  | [y] => ∀ d, S' d = none → Z.ex C d σ (put S' d (.xd [(n, y)]))
  | _ => False
/-- raise C(e) -/
theorem ds_raise1 {x : Str} {C : Addr} {n : Str} {p p2 : Pos} {r : DTA} (hc : X.calm = true) (tk : Takes X W) (E : ErrC X.K X.mg X.prog X.w X.base x C n [] []) (hr : Room 2 X.A) (hg : Gl X x) (ha : DA X W [e] r) (hdb : (x == ("__debug__" : Str)) = false := by decide)
    (he : starEach [e] X.env = (false, eval e X.env) :: starEach [] X.env := by rfl) (hpl : (backTo pos (starEach [] X.env)).any (·.1) = false := by rfl) :
    DS X W (.Raise (some (.Call (.Name x p) [e] [] pos)) none p2) (dRaise1 C n r) := by
  obtain ⟨t, pa, ea⟩ := ha
  obtain ⟨fI, fd, ps, h1, h2, F1, hb, hv⟩ := E.fn
  cases hv
  refine ⟨_, ps_raise hc tk (pmk_oex E.oex h1 h2 F1 hr hb .nil passL hg E.gC pa hdb he hpl), ⟨fun Dd G H S σV σ Dh eo k s h => ?_⟩⟩
  refine ea.run _ G H S σV σ _ _ (eo.wok s) k s h fun ds S' G' H' vs hd k' f r => ?_
  match ds, vs, r, hd with
  | [y], [v], .cons r1 .nil, hd =>
    refine ⟨by show 1 ≤ 1000; decide, fun a ha => ?_⟩
    refine ⟨a, C, v, rfl, E.oex, E.hno, upd_same, fun d hd' hne => ⟨rfl, d, [(n, v)], upd_same, ?_, ?_, ?_⟩⟩
    · rw [upd_ne hne, upd_same]
    · rw [upd_ne hne] at hd'; exact hd'
    · rw [upd_ne hne] at hd'
      have e : upd (del (upd (upd (upd H' a (exo a C none)) d (exd d [(n, v)])) a (exo a C (some d))) a) d (.xd [(n, v)]) = upd H' d (.xd [(n, v)]) := by
        funext b
        by_cases h1 : b = d
        · subst h1; rw [upd_same, upd_same]
        · rw [upd_ne h1, upd_ne h1]
          by_cases h2 : b = a
          · subst h2; rw [del_same, ha]
          · rw [del_ne h2, upd_ne h2, upd_ne h1, upd_ne h2]
      rw [e]
      obtain ⟨k2, f2⟩ := k'.newS (o := .xd [(n, v)]) (m := .xd [(n, y)]) hd' ⟨_, upd_same, .cons ⟨rfl, r1⟩ .nil⟩
      exact eo.ex C d σ _ _ _ σV (hd d (k'.freeS hd')) k2 (f.trans f2) (s.mono (f.trans f2).g)
end
end KD

set_option maxRecDepth 100000
set_option maxHeartbeats 4000000
/-! Kd7: joined operators, calls of defs by what they have, own errors' __init__, a law's end. -/
namespace KD
open PySem PySem.Spec PyProof.Rows L2
section
variable {X : Cx} {W : WX} {K : PySem.W.Frag} {a b c e : Expr} {ra rb rc : DTE} {pos : Pos} {tg : Expr}
/-! ### * of anything, - of one, == of anything -/
def dMul : D → D → Sto → DK → Prop := fun x y S Q => match vw S x, y with
  | .int i, .int j => IntMulOk i j ∧ Q (.int (i * j)) S
  | .lst xs, .int k => -(2 ^ 63) ≤ k ∧ k < 2 ^ 63 ∧ xs.length * k.toNat ≤ sizeLine ∧ Q (.lst (List.replicate k.toNat xs).flatten) S
  | .tup xs, .int k => xs ≠ [] ∧ 2 ≤ k ∧ k ≤ 1000 ∧ xs.length ≤ 1000 ∧ Q (.tup (List.replicate k.toNat xs).flatten) S
  | _, _ => False
theorem rvd_or {r r' : R2} {q q' q2 : D → D → Sto → DK → Prop} (h : RvD K r q) (h' : RvD K r' q') (hq : ∀ x y S Q, q2 x y S Q → q x y S Q ∨ q' x y S Q) : RvD K (fun x y H Q => r x y H Q ∨ r' x y H Q) q2 := ⟨fun G H S x y v u Q P k r1 r2 z p => by
  rcases hq x y S Q z with z | z
  · exact .inl (h.run G H S x y v u Q P k r1 r2 z p)
  · exact .inr (h'.run G H S x y v u Q P k r1 r2 z p)⟩
theorem DOp.or {f : Value → Value → Sem Value} {q q' q2 : D → D → Sto → DK → Prop} (h : DOp X f q) (h' : DOp X f q') (hq : ∀ x y S Q, q2 x y S Q → q x y S Q ∨ q' x y S Q) : DOp X f q2 := by
  obtain ⟨r, o, e⟩ := h
  obtain ⟨r', o', e'⟩ := h'
  exact ⟨_, o.or o', rvd_or e e' hq⟩
theorem vw_int {S : Sto} {d : D} {i : Int} (h : vw S d = .int i) : d = .int i := by
  unfold vw at h
  split at h
  · split at h <;> cases h
  · exact h
theorem dop_mul : DOp X (binaryOp .Mult) dMul := dop_mulI.or dop_rep fun x y S Q h => by
  unfold dMul at h
  split at h
  · rename_i h1
    rw [vw_int h1]
    exact .inl h
  · rename_i h1
    refine .inr ?_
    unfold dRep
    rw [h1]; exact h
  · rename_i h1
    refine .inr ?_
    unfold dRep
    rw [h1]; exact h
  · exact h.elim
def dUn (g : Int → Int) (ra : DTE) : DTE := fun E σ S Q => ra E σ S fun d S' => match d with
  | .int i => Q (.int (g i)) S'
  | _ => False
theorem de_neg (ha : DE X W a ra) : DE X W (.UnaryOp .USub a pos) (dUn (fun i => -i) ra) := by
  obtain ⟨t, p, q⟩ := ha
  refine ⟨_, pe_un un_neg p, ⟨fun E G H S σV σ Q P w k s h f => q.run E G H S σV σ _ _ w k s h fun d S' G' H' v hd k' g r => ?_⟩⟩
  cases d with
  | int i => cases r; exact ⟨i, rfl, f _ S' G' H' _ hd k' g (.int _)⟩
  | _ => exact hd.elim
theorem flat_py {d : D} (h : flatD d = true) : ∃ p, toPy d = some p ∧ SeqAt.EqAt = SeqAt.EqAt := by cases d <;> first | (simp [flatD] at h; done) | exact ⟨_, rfl, rfl⟩
/-- == of scalars by eqF, of others by data -/
def dEqG : D → D → Sto → DK → Prop := fun x y S Q => match flatD x, flatD y with
  | true, true => Q (.bl (eqF x y)) S
  | _, _ => dEq x y S Q
def dNeG : D → D → Sto → DK → Prop := fun x y S Q => match flatD x, flatD y with
  | true, true => Q (.bl (!eqF x y)) S
  | _, _ => dNe x y S Q
theorem eqF_sc {x y : D} {s t : Sc} (hx : scOf x = some s) (hy : scOf y = some t) (h : scal s.v t.v = true) : decide (s = t) = eqF x y := by
  cases x <;> simp only [scOf, reduceCtorEq, Option.some.injEq] at hx <;> cases y <;> simp only [scOf, reduceCtorEq, Option.some.injEq] at hy <;> subst hx hy <;> first | (simp [Sc.v, scal] at h; done) | (rw [Bool.eq_iff_iff]; simp [eqF]; done)
theorem flat_sc {x : D} (h : flatD x = true) : ∃ s, scOf x = some s := by cases x <;> first | exact ⟨_, rfl⟩ | (simp [flatD] at h)
theorem eqF_bi {x y : D} {s t : Sc} (hx : scOf x = some s) (hy : scOf y = some t) (h : ¬ scal s.v t.v = true) : ∃ p q, toPy x = some p ∧ toPy y = some q ∧ SeqAt.shaped p = true ∧ SeqAt.shaped q = true ∧ PyData.eqv p q = eqF x y := by
  cases x <;> simp only [scOf, reduceCtorEq, Option.some.injEq] at hx <;> cases y <;> simp only [scOf, reduceCtorEq, Option.some.injEq] at hy <;> subst hx hy <;> first
    | (simp [Sc.v, scal] at h; done)
    | exact ⟨_, _, rfl, rfl, by simp [SeqAt.shaped, PyData.canLay0, PyData.depth], by simp [SeqAt.shaped, PyData.canLay0, PyData.depth], rfl⟩
theorem vw_flat {S : Sto} {x : D} (h : flatD x = true) : vw S x = x := by cases x <;> first | rfl | (simp [flatD] at h)
theorem dop_eqG (hu : X.A.units + 64 < cLine) : DOp X (compareOp .Eq) dEqG := (dop_eqS).or (dop_eq hu) fun x y S Q h => by
  unfold dEqG at h
  split at h
  · rename_i h1 h2
    obtain ⟨s, hs⟩ := flat_sc h1
    obtain ⟨t, ht⟩ := flat_sc h2
    by_cases c : scal s.v t.v = true
    · refine .inl ?_
      unfold dEqS
      rw [hs, ht]
      refine ⟨c, ?_⟩
      rw [eqF_sc hs ht c]; exact h
    · refine .inr ?_
      obtain ⟨p, q, a1, a2, a3, a4, a5⟩ := eqF_bi hs ht c
      exact ⟨p, q, by rw [vw_flat h1]; exact a1, by rw [vw_flat h2]; exact a2, a3, a4, by rw [a5]; exact h⟩
  · exact .inr h
theorem dop_neG (hu : X.A.units + 64 < cLine) : DOp X (compareOp .NotEq) dNeG := (dop_neS).or (dop_ne hu) fun x y S Q h => by
  unfold dNeG at h
  split at h
  · rename_i h1 h2
    obtain ⟨s, hs⟩ := flat_sc h1
    obtain ⟨t, ht⟩ := flat_sc h2
    by_cases c : scal s.v t.v = true
    · refine .inl ?_
      unfold dNeS
      rw [hs, ht]
      refine ⟨c, ?_⟩
      rw [eqF_sc hs ht c]; exact h
    · refine .inr ?_
      obtain ⟨p, q, a1, a2, a3, a4, a5⟩ := eqF_bi hs ht c
      exact ⟨p, q, by rw [vw_flat h1]; exact a1, by rw [vw_flat h2]; exact a2, a3, a4, by rw [a5]; exact h⟩
  · exact .inr h
/-! ### a chain as a test -/
theorem ev_chain {ta tb tc : TE} {r r' : R2} {q q' : D → D → Sto → DK → Prop} (ea : EvD K W ta ra) (eb : EvD K W tb rb) (ec : EvD K W tc rc) (eo : RvD K r q) (eo' : RvD K r' q') : EvD K W (tChain r r' ta tb tc) (dChain q q' ra rb rc) := by
  refine ⟨fun E G H S σV σ Q P w k s h p => ?_⟩
  refine ea.run E G H S σV σ _ _ w k s h fun x S1 G1 H1 v h1 k1 f1 r1 => ?_
  refine eb.run E G1 H1 S1 σV σ _ _ (w.mono f1) k1 (s.mono f1.g) h1 fun y S2 G2 H2 u h2 k2 f2 r2 => ?_
  have f12 := f1.trans f2
  refine eo.run G2 H2 S2 x y v u _ _ k2 (r1.mono f2.g) r2 h2 fun d S3 G3 H3 z h3 k3 f3 r3 => ?_
  have f13 := f12.trans f3
  cases d with
  | bl m =>
    cases r3
    refine ⟨m, rfl, ?_⟩
    cases m with
    | true =>
      rw [if_pos rfl]
      have h3 : rc E σ S3 fun z S4 => q' y z S4 Q := h3
      refine ec.run E G3 H3 S3 σV σ _ _ (w.mono f13) k3 (s.mono f13.g) h3 fun z S4 G4 H4 t h4 k4 f4 r4 => ?_
      exact eo'.run G4 H4 S4 y z u t _ _ k4 (r2.mono (f3.trans f4).g) r4 h4 fun d' S5 G5 H5 z' h5 k5 f5 r5 => p d' S5 G5 H5 z' h5 k5 ((f13.trans f4).trans f5) r5
    | false =>
      rw [if_neg Bool.false_ne_true]
      exact p _ S3 G3 H3 _ h3 k3 f13 (.bl _)
  | _ => exact h3.elim
theorem dt_chain {op op' : CmpOp} {q q' : D → D → Sto → DK → Prop} (ho : DOp X (compareOp op) q) (ho' : DOp X (compareOp op') q') (ha : DE X W a ra) (hb : DE X W b rb) (hc : DE X W c rc)
    (hm : lastMarks [op, op'] [b, c] = false := by with_unfolding_all rfl) : DT X W (.Compare a [op, op'] [b, c] pos) (dTest (dChain q q' ra rb rc)) := by
  obtain ⟨ta, pa, ea⟩ := ha
  obtain ⟨tb, pb, eb⟩ := hb
  obtain ⟨tc, pc, ec⟩ := hc
  obtain ⟨r, o, eo⟩ := ho
  obtain ⟨r', o', eo'⟩ := ho'
  exact ⟨_, pt_chain o o' pa pb pc hm, evt_test (ev_chain ea eb ec eo eo')⟩
theorem de_chain' {op op' : CmpOp} {q q' : D → D → Sto → DK → Prop} (ho : DOp X (compareOp op) q) (ho' : DOp X (compareOp op') q') (ha : DE X W a ra) (hb : DE X W b rb) (hc : DE X W c rc)
    (hm : lastMarks [op, op'] [b, c] = false := by with_unfolding_all rfl) : DE X W (.Compare a [op, op'] [b, c] pos) (dChain q q' ra rb rc) := by
  obtain ⟨ta, pa, ea⟩ := ha
  obtain ⟨tb, pb, eb⟩ := hb
  obtain ⟨tc, pc, ec⟩ := hc
  obtain ⟨r, o, eo⟩ := ho
  obtain ⟨r', o', eo'⟩ := ho'
  exact ⟨_, pe_chain o o' pa pb pc hm, ev_chain ea eb ec eo eo'⟩
/-! ### a, b, c = x, y, z -/
def dPar3 (i j l : Nat) (r : DTA) : DTS := fun Z σ S => r (exOf Z σ) σ S fun ds S' => match ds with
  | [x, y, z] => Z.nx (((σ.set i (some x)).set j (some y)).set l (some z)) S'
  | _ => False
theorem ds_par3 {i j l : Nat} {x y z : Str} {r : DTA} {px py pz pt : Pos} {kt k2 pt2} (hc : X.calm = true) (hN : X.N.Nodup) (hi : X.N[i]? = some x) (hj : X.N[j]? = some y) (hl : X.N[l]? = some z) (hij : i ≠ j) (hil : i ≠ l) (hjl : j ≠ l)
    (hx : X.env.scope.names.lookup x = some .local) (hy : X.env.scope.names.lookup y = some .local) (hz : X.env.scope.names.lookup z = some .local) (ha : DA X W [a, b, c] r)
    (hw : swappedStores [.Tuple [.Name x px, .Name y py, .Name z pz] kt pt] (.Tuple [a, b, c] k2 pt2) X.env = pure (some [x, y, z]) := by rfl)
    (hs : swapsWithSole [.Tuple [.Name x px, .Name y py, .Name z pz] kt pt] (.Tuple [a, b, c] k2 pt2) pos.line X.env = pure false := by rfl) :
    DS X W (.Assign [.Tuple [.Name x px, .Name y py, .Name z pz] kt pt] (.Tuple [a, b, c] k2 pt2) pos) (dPar3 i j l r) := by
  obtain ⟨t, p, q⟩ := ha
  refine ⟨_, ps_par3 hc hN hi hj hl hij hil hjl hx hy hz p hw hs, ⟨fun Dd G H S σV σ Dh eo k s h => ?_⟩⟩
  refine q.run _ G H S σV σ _ _ (eo.wok s) k s h fun ds S' G' H' vs hd k' f r => ?_
  match ds, vs, r, hd with
  | [d1, d2, d3], [v1, v2, v3], .cons r1 (.cons r2 (.cons r3 .nil)), hd => exact ⟨v1, v2, v3, rfl, eo.nx.go _ S' G' H' _ hd k' f ((((s.mono f.g).set i r1).set j r2).set l r3)⟩
/-! ### x op= e by operators of ints -/
theorem dip_add : DIp X .Add dAddI := ⟨_, ip_add, ⟨fun G H S x y v u Q P k r1 r2 h p => by
  unfold dAddI dI0 at h
  split at h
  · cases r1; cases r2
    exact ⟨_, _, rfl, rfl, p _ S G H _ h k (.refl _ _ _) (.int _)⟩
  · exact h.elim⟩⟩
theorem dip_sub : DIp X .Sub dSub := ⟨_, ip_sub, ⟨fun G H S x y v u Q P k r1 r2 h p => by
  unfold dSub dI0 at h
  split at h
  · cases r1; cases r2
    exact ⟨_, _, rfl, rfl, p _ S G H _ h k (.refl _ _ _) (.int _)⟩
  · exact h.elim⟩⟩
/-! ### tuples that the module has written -/
theorem de_globT {x : Str} {p : Addr} {o : Obj} {its : Array Value} {n : Nat} {vs : List V} {ds : List D} (hg : Gl X x) (hm : X.mg x = some (.ref p)) (hk : X.K.lookup p = some o) (hc : o.cls = .type "tuple") (hd : o.data = .seq its n) (hz : its.size ≤ sizeLine) (hv : Vals vs its.toList) (hr : ∀ G, RepL X.K G vs ds)
    (hdb : (x == ("__debug__" : Str)) = false := by decide) : DE X W (.Name x pos) (dC (.tup ds)) :=
  ⟨_, pe_glob (v := .ref p) hg hm rfl hdb, ev_c fun G => .tup (.inr ⟨o, its, n, hk, hc, hd, hz, hv⟩) (hr G)⟩
end
/-! ### defs that are there -/
structure Has (P : Program) (w : World) (K : PySem.W.Frag) (mg : Str → Option Value) (base : Heap) (k : Nat) (x : Str) (ps : List Str) (sp : DSp) : Prop where
  ex : ∃ (f : Addr) (fd : FuncData), mg x = some (.ref f) ∧ PySem.W.keepIn K (.ref f) = true ∧ Binds K fd ps [] ∧ FnOk P w K mg base (L2.CX P w) k f fd ps (lift K sp)
/-- where the def's text stands -/
structure At (K : PySem.W.Frag) (mg : Str → Option Value) (x : Str) (st : Stmt) (ps : List Str) : Prop where
  ex : ∃ (f : Addr) (fd : FuncData), mg x = some (.ref f) ∧ Fun K x x st f fd ∧ Binds K fd ps []
section
variable {X : Cx} {W : WX} {e : Expr} {pos : Pos}
theorem de_has {k : Nat} {ps : List Str} {sp : DSp} {x : Str} {p : Pos} {es : List Expr} {r : DTA} (tk : Takes X W) (F : Has X.prog X.w X.K X.mg X.base k x ps sp) (hr : Room k X.A) (hg : Gl X x) (ha : DA X W (e :: es) r) (hd : (x == ("__debug__" : Str)) = false := by decide)
    (hs : starEach (e :: es) X.env = (false, eval e X.env) :: starEach es X.env := by rfl) (hpl : (backTo pos (starEach es X.env)).any (·.1) = false := by rfl) :
    DE X W (.Call (.Name x p) (e :: es) [] pos) (dFn sp r) := by
  obtain ⟨f, fd, hm, hk, hb, F⟩ := F.ex
  exact de_fn tk F hr hg hm hk hb ha hd hs hpl
end
section
variable {P : Program} {w : World} {K : PySem.W.Frag} {mg : Str → Option Value} {base : Heap}
theorem okH {x : Str} {st : Stmt} {N ps : List Str} {k : Nat} {sp : DSp} (A : At K mg x st ps) (Sc : FnScope N ps (defScope st)) (len : ∀ ds S Q E, sp ds S Q E → ds.length = ps.length)
    (hbody : ∀ (f : Addr) (cdv : Value) (A : Around) (outer : List Env) (s : Shared) (H : Hp) (E : XK), Room k (A.deeper (envOfC x (defScope st) s.heap.objs.size f cdv)) →
      ∃ r, DSs (cxOf (L2.CX P w) P w K mg base N x (defScope st) f cdv A outer s H E) (fun cls d _ H' => E cls d H') (defBody st) r ∧ ∀ ds S Q E', sp ds S Q E' → r (dends Q E') (dstart N ds) S) :
    Has P w K mg base (k + 1) x ps sp := by
  obtain ⟨f, fd, g, F, b⟩ := A.ex
  exact ⟨f, fd, g, F.kp, b, okD F Sc len fun cdv A outer s H E hr => hbody f cdv A outer s H E hr⟩
theorem Has.imp {k : Nat} {x : Str} {ps : List Str} {sp sp' : DSp} (F : Has P w K mg base k x ps sp) (h : ∀ ds S Q E, sp' ds S Q E → sp ds S Q E) : Has P w K mg base k x ps sp' := by
  obtain ⟨f, fd, g, kp, b, F⟩ := F.ex
  exact ⟨f, fd, g, kp, b, F.imp fun vs H Q E ⟨G, S, ds, Qd, Ed, k1, r1, hs, hQ, hE⟩ => ⟨G, S, ds, Qd, Ed, k1, r1, h _ _ _ _ hs, hQ, hE⟩⟩
theorem at_mk {x : Str} {st : Stmt} {ps : List Str} {h : Heap} {f : Addr} {oc : Value} {od an : Option Addr} {osl : Array (Option Value)} {kV doc pm cdv ct : Value} (X : K.In h) (G : h.Ns mainGlobals mg) (a : PySem.W.nsIn K mainGlobals x = some (some (.ref f)))
    (l : K.lookup f = some ⟨oc, od, .func (PySem.W.fnOf x x (defArgs st) (defBody st) (defScope st) .none kV doc pm an cdv ct), osl⟩) (c : PySem.W.codeIn K cdv x = true) (k : PySem.W.keepIn K (.ref f) = true)
    (hb : ∀ (kV doc pm : Value) (an : Option Addr) (cdv ct : Value) (us : List Value), us.length = ps.length → bindArgs (PySem.W.fnOf x x (defArgs st) (defBody st) (defScope st) .none kV doc pm an cdv ct) ⟨us, []⟩ = pure (ps.zip us)) : At K mg x st ps :=
  ⟨f, _, PySem.W.mg_of X G a, fun_mk l c k, (fun_mk (st := st) l c k).binds hb⟩
end
/-! ### a law's end -/
def spLaw : DSp := fun ds S Q _ => ∃ ns : List Int, ds = [.scr ns] ∧ ns.length ≤ 63 ∧ S = (fun _ => none) ∧ ∀ S', Q (.bl true) S'
theorem walkD {l : PySem.W.OpenLaw} {k : Nat} {q : Program} {loose : List Str} {XP : (Str → Option Value) → Heap → Prop} {YP : World → Heap → Prop} {d : DefRec} {K : Params → PySem.W.Frag}
    (hn : l.most = some 63) (hdf : d.params.defaults = []) (hr : Room k callerA) (hdn : d.name = "law")
    (hY : ∀ (w : World) (h : Heap), YP w h → (K w.params).In h)
    (F : ∀ (w : World) (mg : Str → Option Value) (h : Heap), (K w.params).In h → h.Ns mainGlobals mg →
      ∃ (f : Addr) (fd : FuncData), mg "law" = some (.ref f) ∧ (∀ (s : Shared) (u : Value), BindsTo s fd ⟨[u], []⟩ [("script", u)]) ∧ ∀ base : Heap, (K w.params).In base → base.Ns mainGlobals mg → FnOk l.prog w (K w.params) mg base (L2.CX l.prog w) k f fd ["script"] (lift (K w.params) spLaw)) :
    PySem.W.WalkO q loose XP YP l.row.toRowW d [] (fun f vs => PySem.call f vs) := by
  refine L2.walk_of (n := 63) (k := k) (x := "script") (CX := fun w => L2.CX l.prog w) (sp := fun w => lift (K w.params) spLaw) hn (by decide) hdf hr hY (fun w mg fa h KX G hmg => ?_) (fun w H a ns hl _ hS => ?_) fun w H s e s' h => ?_
  · obtain ⟨f, fd, h1, h2, h3⟩ := F w mg h KX G
    rw [hdn] at hmg
    rw [h1] at hmg
    cases hmg
    exact ⟨fd, h2, h3⟩
  · exact ⟨H, fun _ => none, [.scr ns], fun d _ => d = .bl true, fun _ _ _ => False, ⟨Evl.Ex.refl _, fun _ _ h => nomatch h⟩, .cons (.scr hS) .nil, ⟨ns, rfl, hl, rfl, fun _ => rfl⟩, fun d S' G' H' v e _ _ r => by subst e; cases r; rfl, fun _ _ _ _ _ h => h.elim⟩
  · obtain ⟨_, _, _, _, _, _, _, _, _, _, _, _, z⟩ := h
    exact z
/-! ### fresh lists that will change -/
section
variable {X : Cx} {W : WX} {K : PySem.W.Frag} {e : Expr} {ra : DTE} {pos : Pos}
def dAddM : D → D → Sto → DK → Prop := fun x y S Q => match vw S x, vw S y with
  | .lst xs, .lst ys => xs.length + ys.length ≤ sizeLine ∧ ∀ p, S p = none → Q (.ref p) (put S p (.lst (xs ++ ys)))
  | _, _ => False
theorem dop_addM : DOp X (binaryOp .Add) dAddM := ⟨_, op_cat, ⟨fun G H S x y v u Q P k r1 r2 h p => by
  unfold dAddM at h
  split at h
  · rename_i h1 h2
    obtain ⟨a1, vs, e1, q1, l1⟩ := seq_of k r1 h1
    obtain ⟨a2, us, e2, q2, l2⟩ := seq_of k r2 h2
    refine ⟨a1, a2, vs, us, e1, e2, q1, q2, by rw [l1.length, l2.length]; exact h.1, fun q hq => ?_⟩
    obtain ⟨k2, f2⟩ := k.newS (o := .lst (vs ++ us)) (m := .lst _) hq ⟨_, upd_same, l1.append l2⟩
    exact p _ _ _ _ _ (h.2 q (k.freeS hq)) k2 f2 (.ref q)
  · exact h.elim⟩⟩
def dSlM (re : DTE) (rl rh : DTO) : DTE := fun E σ S Q => re E σ S fun x S1 => rl E σ S1 fun l S2 => rh E σ S2 fun u S3 => match vw S3 x with
  | .lst xs => ∀ p, S3 p = none → Q (.ref p) (put S3 p (.lst (cutD xs l u)))
  | _ => False
theorem de_sliceM {lo hi : Option Expr} {rl rh : DTO} {p2 : Pos} (he : DE X W e ra) (hl : DO X W lo rl) (hh : DO X W hi rh) : DE X W (.Subscript e (.Slice lo hi none p2) pos) (dSlM ra rl rh) := by
  obtain ⟨t, p, q⟩ := he
  obtain ⟨tl, pl, ql⟩ := hl
  obtain ⟨th, ph, qh⟩ := hh
  refine ⟨_, pe_slice sl_list p pl ph, ⟨fun E G H S σV σ Q P w k s h f => ?_⟩⟩
  refine q.run E G H S σV σ _ _ w k s h fun x S1 G1 H1 v h1 k1 f1 r1 => ?_
  refine ql.run E G1 H1 S1 σV σ _ _ (w.mono f1) k1 (s.mono f1.g) h1 fun l S2 G2 H2 h2 k2 f2 => ?_
  have f12 := f1.trans f2
  refine qh.run E G2 H2 S2 σV σ _ _ (w.mono f12) k2 (s.mono f12.g) h2 fun u S3 G3 H3 h3 k3 f3 => ?_
  have f13 := f12.trans f3
  have r3 := r1.mono (f2.trans f3).g
  split at h3
  · rename_i xs hx
    obtain ⟨a1, vs, e1, q1, l1⟩ := seq_of k3 r3 hx
    refine ⟨a1, vs, e1, .of q1, fun n hn => ?_⟩
    obtain ⟨k4, f4⟩ := k3.newS (o := .lst (cutV vs l u)) (m := .lst (cutD xs l u)) hn ⟨_, upd_same, cut_rep l1 l u⟩
    exact f _ _ _ _ _ (h3 n (k3.freeS hn)) k4 (f13.trans f4) (.ref n)
  · exact h3.elim
/-! ### constants that are tuples -/
structure TupC (K : PySem.W.Frag) (mg : Str → Option Value) (x : Str) (ds : List D) : Prop where
  ex : ∃ (p : Addr) (o : Obj) (its : Array Value) (n : Nat) (vs : List V), mg x = some (.ref p) ∧ K.lookup p = some o ∧ o.cls = .type "tuple" ∧ o.data = .seq its n ∧ its.size ≤ sizeLine ∧ Vals vs its.toList ∧ ∀ G, RepL K G vs ds
theorem de_globC {x : Str} {ds : List D} (hg : Gl X x) (c : TupC X.K X.mg x ds) (hdb : (x == ("__debug__" : Str)) = false := by decide) : DE X W (.Name x pos) (dC (.tup ds)) := by
  obtain ⟨p, o, its, n, vs, h1, h2, h3, h4, h5, h6, h7⟩ := c.ex
  exact de_globT hg h1 h2 h3 h4 h5 h6 h7 hdb
end
/-! ### own errors -/
section
variable {P : Program} {w : World} {K : PySem.W.Frag} {mg : Str → Option Value} {base : Heap}
/-- __init__(self, value=..): self.value = value -/
theorem ok_init1 {n q : Str} {args : Arguments} {body : List Stmt} {sc : Scope} {dvs : List V} {f : Addr} {fd : FuncData} {p1 p2 p3 p4 : Pos} (F : FunD K "__init__" q args body sc dvs [] f fd) (Sc : FnScope ["self", n] ["self", n] sc) (hb : body = [.Assign [.Attribute (.Name "self" p1) n p2] (.Name n p3) p4])
    (h1 : sc.names.lookup ("self" : Str) = some NameKind.local) (h2 : sc.names.lookup n = some NameKind.local) (hd : (n == ("__debug__" : Str)) = false) (hcd : (n == ("__classdict__" : Str)) = false) :
    FnOk P w K mg base (L2.CX P w) 1 f fd ["self", n] (spInit1 K n) := by
  refine F.ok Sc (fun vs H Q E h => ?_) fun cdv A outer s H vs Q E hr h => ?_
  · obtain ⟨a, C, y, rfl, _⟩ := h
    rfl
  · obtain ⟨a, C, y, rfl, hC, hn, ha, q⟩ := h
    refine ⟨tOst K n (tVar 0) (tVar 1), ?_, ?_⟩
    · rw [hb]
      exact pss_one (ps_ost (pe_var (i := 0) rfl (.inl h1)) (pe_var (i := 1) rfl (.inl h2) hd hcd))
    · exact ⟨y, rfl, .ref a, rfl, a, C, rfl, hC, hn, .inl ⟨ha, fun dx h3 h4 => q dx h3 h4⟩⟩
/-- what the module tells of HouseError.__init__, for all its classes -/
structure InitC (P : Program) (w : World) (K : PySem.W.Frag) (mg : Str → Option Value) (base : Heap) (n : Str) (fI : Addr) : Prop where
  ty : PySem.W.typeIn K (.ref fI) = some (.type "function")
  fn : ∃ (fd : FuncData) (ps : List Str), FnOk P w K mg base (L2.CX P w) 1 fI fd ps (spInit1 K n) ∧ Binds K fd ps []
theorem init_mk {n q : Str} {args : Arguments} {body : List Stmt} {sc : Scope} {fI T : Addr} {oc ocT kV doc pm cd ct : Value} {od odT an : Option Addr} {sl slT : Array (Option Value)} {nT : Nat} {p1 p2 p3 p4 : Pos}
    (l : K.lookup fI = some ⟨oc, od, .func (PySem.W.fnOf "__init__" q args body sc (.ref T) kV doc pm an cd ct), sl⟩) (c : PySem.W.codeIn K cd q = true) (k : PySem.W.keepIn K (.ref fI) = true) (t : PySem.W.typeIn K (.ref fI) = some (.type "function"))
    (lT : K.lookup T = some ⟨ocT, odT, .seq #[.none] nT, slT⟩) (Sc : FnScope ["self", n] ["self", n] sc) (hb : body = [.Assign [.Attribute (.Name "self" p1) n p2] (.Name n p3) p4])
    (h1 : sc.names.lookup ("self" : Str) = some NameKind.local) (h2 : sc.names.lookup n = some NameKind.local) (hd : (n == ("__debug__" : Str)) = false) (hcd : (n == ("__classdict__" : Str)) = false)
    (hbind : ∀ (T : Addr) (kV doc pm : Value) (an : Option Addr) (cdv ct : Value) (us its : List Value), us.length = 2 → its.length = 1 →
      ∃ k, bindArgs (PySem.W.fnOf "__init__" q args body sc (.ref T) kV doc pm an cdv ct) ⟨us, []⟩ = seqItems? (.ref T) >>= k ∧ k (some its.toArray) = pure ((["self", n] : List Str).zip (us ++ its.drop 1))) : InitC P w K mg base n fI := by
  have F : FunD K "__init__" q args body sc [.non] [] fI (PySem.W.fnOf "__init__" q args body sc (.ref T) kV doc pm an cd ct) :=
    ⟨⟨oc, od, _, kV, doc, pm, an, cd, ct, sl, rfl, l, c, .inr ⟨by simp, T, _, [.none], nT, rfl, lT, rfl, .cons rfl .nil⟩, .inl rfl⟩, k⟩
  obtain ⟨ds, h3, h4⟩ := F.binds1 (ps := ["self", n]) 2 1 (by simp) rfl hbind
  cases h3
  exact ⟨t, _, _, ok_init1 F Sc hb h1 h2 hd hcd, h4⟩
theorem err_mk {h : Heap} {x n : Str} {C fI : Addr} (X : K.In h) (G : h.Ns mainGlobals mg) (I : InitC P w K mg base n fI) (a : PySem.W.nsIn K mainGlobals x = some (some (.ref C)))
    {nm : Str} {q : Str} {N : Addr} {bs bm : List Value} {sn : List Str} {sub ab col dd k0 k1 k2 k3 k5 : _} (cls : K.lookup C = some (excClassObj nm q C N bs bm true sn sub ab col dd k0 k1 k2 k3 k5 "ValueError.__new__")) (rv : PySem.HandSPX.refsVE bm = true)
    (sa : PySem.W.findIn K (.ref C) "__setattr__" = some (some (.builtin "object.__setattr__"))) (exC : PySem.W.subIn K (.ref C) (.type "BaseException") = some true) (tyC : PySem.W.typeIn K (.ref C) = some (.type "type")) (kC : PySem.W.keepIn K (.ref C) = true)
    (hno : PySem.W.findIn K (.ref C) n = some none) (hi : PySem.W.findIn K (.ref C) "__init__" = some (some (.ref fI))) : ErrC K mg P w base x C n [] [] := by
  obtain ⟨fd, ps, h1, h2⟩ := I.fn
  exact ⟨PySem.W.mg_of X G a, ⟨⟨nm, q, N, bs, bm, sn, sub, ab, col, dd, k0, k1, k2, k3, k5, cls, rv⟩, sa, exC, tyC, kC⟩, hno, fI, fd, ps, hi, I.ty, h1, h2, .nil⟩
end
end KD

set_option maxRecDepth 100000
set_option maxHeartbeats 4000000
/-! KdT: tuple * int, also of the empty tuple and by 1. -/
namespace KD
open PySem PySem.Spec PyProof.Rows L2
theorem tuple_mul_same (l : Addr) (items : Array Value) (n : Nat) (dd : Option Addr) (sl : Array (Option Value)) (x : Int) (u : Tok) (c0 : (decide (x < -(2 ^ 63)) || decide (x ≥ 2 ^ 63)) = false) (c1 : (items.isEmpty || x == 1) = true) :
    Meets (Builtin.«tuple.__mul__» ⟨[.ref l, .int x u], []⟩) (fun _ R s => s.heap.get? l = some { cls := .type "tuple", dict := dd, data := .seq items n, slots := sl } ∧ R (.ok (.ret (Value.ref l))) s) :=
  .of_wp fun prog w A R s h => by
    obtain ⟨hp, g, d, tk, os⟩ := s
    obtain ⟨hl, h⟩ := h
    have f1 := AutoSeq1.idx_int
    wp_walk using wpAny_loadPart' hl
    repeat (first
      | (refine wpAny_ite_false (decide_eq_false (by rw [c0]; exact Bool.false_ne_true)) ?_; wp_walk using wpAny_loadPart' hl)
      | (refine wpAny_ite_true (decide_eq_true c1) ?_; wp_walk using wpAny_loadPart' hl))
    exact ⟨_, rfl, h⟩
def rRepT0 (K : PySem.W.Frag) : R2 := fun x y H Q => ∃ l k xs, x = .ref l ∧ y = .int k ∧ SqT K H l xs ∧ (xs = [] ∨ k = 1) ∧ -(2 ^ 63) ≤ k ∧ k < 2 ^ 63 ∧ Q (.ref l) H
section
variable {X : Cx} {K : PySem.W.Frag}
theorem op_repT0 : OpR X (binaryOp .Mult) (rRepT0 X.K) := by
  intro pins s σ H x y v u Q I rx ry h
  obtain ⟨l, k, xs, rfl, rfl, hT, hc1, h1, h2, q⟩ := h
  cases rx
  obtain ⟨t, rfl⟩ := ry
  obtain ⟨its, r, ⟨⟨cls, dd, data, sl⟩, ho, hc, n, hd⟩, hs⟩ := I.tuple hT
  simp only at hc hd
  subst hc hd
  have c0 : (decide (k < -(2 ^ 63)) || decide (k ≥ 2 ^ 63)) = false := by
    rw [decide_eq_false (by omega), decide_eq_false (by omega)] <;> rfl
  have c1 : (its.toArray.isEmpty || k == 1) = true := by
    rcases hc1 with e | e
    · subst e; cases r; rfl
    · subst e; simp
  refine wpAny_binaryOp_repeat_ref (T := "tuple") (U := "int") (by decide) ⟨_, ho, rfl⟩ (fun s' => typeIs_int s' k t) noFill_tuple_mul F.fills_int_mul F.slot_int_rmul repeat_tuple F.slot_int_index.lookup
    (call_meets F.slot_int_rmul (typeIs_int s k t) F.entry_int_rmul (F.args_int_rmul_2 _ _) (int_rmul_tuple k t l its.toArray n dd sl)
      ⟨ho, rfl, ⟨_, ho, rfl⟩, call_meets F.slot_tuple_mul ⟨_, ho, rfl⟩ F.entry_tuple_mul (F.args_tuple_mul_2 _ _) (tuple_mul_same l its.toArray n dd sl k t c0 c1) ⟨ho, ?_⟩⟩)
  exact ⟨.ref l, H, I, rfl, q⟩
def dRepT : D → D → Sto → DK → Prop := fun x y S Q => match vw S x, y with
  | .tup xs, .int k => 1 ≤ k ∧ k ≤ 1000 ∧ xs.length ≤ 1000 ∧ Q (.tup (List.replicate k.toNat xs).flatten) S
  | _, _ => False
theorem rep_nil {α : Type} : ∀ n : Nat, (List.replicate n ([] : List α)).flatten = []
  | 0 => rfl
  | n + 1 => by rw [List.replicate_succ, List.flatten_cons, rep_nil n]; rfl
theorem dop_repT : DOp X (binaryOp .Mult) dRepT := ⟨_, op_repT.or op_repT0, ⟨fun G H S x y v u Q P k r1 r2 h p => by
  unfold dRepT at h
  split at h
  · rename_i xs n h1
    cases r2
    obtain ⟨a1, vs, e1, q1, l1, g1⟩ := tup_of k r1 h1
    obtain ⟨z2, z3, z4, z5⟩ := h
    by_cases c : xs = [] ∨ n = 1
    · refine .inr ⟨a1, _, vs, e1, rfl, q1.sq, ?_, by omega, by omega, ?_⟩
      · rcases c with c | c
        · subst c; cases l1; exact .inl rfl
        · exact .inr c
      · have e : (List.replicate n.toNat xs).flatten = xs := by
          rcases c with c | c
          · subst c; exact rep_nil _
          · subst c; simp
        rw [e] at z5
        exact p _ S G H _ z5 k (.refl _ _ _) (.tup g1 l1)
    · have c1 : xs ≠ [] := fun e => c (.inl e)
      have c2 : n ≠ 1 := fun e => c (.inr e)
      refine .inl ⟨a1, _, vs, e1, rfl, q1.sq, fun z => ?_, by omega, z3, by rw [l1.length]; exact z4, fun q hq => ?_⟩
      · subst z; cases l1; exact c1 rfl
      · obtain ⟨k2, f2⟩ := k.newG (o := .tup (List.replicate _ vs).flatten) hq
        exact p _ S _ _ _ z5 k2 f2 (.tup (.inl upd_same) ((repl_rep l1 _).mono f2.g))
  · exact h.elim⟩⟩
def dMulG : D → D → Sto → DK → Prop := fun x y S Q => match vw S x, y with
  | .int i, .int j => IntMulOk i j ∧ Q (.int (i * j)) S
  | .lst xs, .int k => -(2 ^ 63) ≤ k ∧ k < 2 ^ 63 ∧ xs.length * k.toNat ≤ sizeLine ∧ Q (.lst (List.replicate k.toNat xs).flatten) S
  | .tup xs, .int k => 1 ≤ k ∧ k ≤ 1000 ∧ xs.length ≤ 1000 ∧ Q (.tup (List.replicate k.toNat xs).flatten) S
  | _, _ => False
theorem dop_mulG : DOp X (binaryOp .Mult) dMulG := dop_mul.or dop_repT fun x y S Q h => by
  unfold dMulG at h
  split at h
  · rename_i h1
    refine .inl ?_
    unfold dMul
    rw [h1]; exact h
  · rename_i h1
    refine .inl ?_
    unfold dMul
    rw [h1]; exact h
  · rename_i h1
    refine .inr ?_
    unfold dRepT
    rw [h1]; exact h
  · exact h.elim
end
end KD

set_option maxRecDepth 100000
set_option maxHeartbeats 4000000
/-! KdL: loops and comprehensions by an invariant, a step at a time. -/
namespace KD
open PySem PySem.Spec PyProof.Rows L2
theorem loop_inv {g : DTG} {rb : DTS} {Z : DEnds} (I : Nat → DSt → Sto → Prop) : ∀ (xs : List D) (k : Nat) (σ : DSt) (S : Sto), I k σ S →
    (∀ i x σ S, xs[i]? = some x → I (k + i) σ S → ∀ N : DSt → Sto → Prop, (∀ σ' S', I (k + i + 1) σ' S' → N σ' S') → g x σ S fun σ' S' => rb { Z with nx := N, ct := N, bk := Z.nx } σ' S') →
    (∀ σ S, I (k + xs.length) σ S → Z.nx σ S) → dLoop g rb Z xs σ S
  | [], k, σ, S, h0, _, hd => hd σ S h0
  | x :: xs, k, σ, S, h0, hs, hd => by
    refine hs 0 x σ S rfl h0 _ fun σ' S' h1 => loop_inv I xs (k + 1) σ' S' h1 (fun i y σ S hy hi N hN => ?_) fun σ S h => ?_
    · refine hs (i + 1) y σ S hy (by rw [show k + (i + 1) = k + 1 + i by omega]; exact hi) N fun σ' S' h => hN σ' S' ?_
      rw [show k + 1 + i + 1 = k + (i + 1) + 1 by omega]; exact h
    · refine hd σ S ?_
      rw [List.length_cons, show k + (xs.length + 1) = k + 1 + xs.length by omega]; exact h
theorem loop0 {g : DTG} {rb : DTS} {Z : DEnds} {xs : List D} {σ : DSt} {S : Sto} (I : Nat → DSt → Sto → Prop) (h0 : I 0 σ S)
    (hs : ∀ i x σ S, xs[i]? = some x → I i σ S → ∀ N : DSt → Sto → Prop, (∀ σ' S', I (i + 1) σ' S' → N σ' S') → g x σ S fun σ' S' => rb { Z with nx := N, ct := N, bk := Z.nx } σ' S')
    (hd : ∀ σ S, I xs.length σ S → Z.nx σ S) : dLoop g rb Z xs σ S :=
  loop_inv I xs 0 σ S h0 (fun i x σ S hx hi N hN => hs i x σ S hx (by rw [Nat.zero_add] at hi; exact hi) N fun σ' S' h => hN σ' S' (by rw [Nat.zero_add]; exact h)) fun σ S h => hd σ S (by rw [Nat.zero_add] at h; exact h)
/-- a comprehension that changes nothing: f of the items that p keeps -/
theorem lc_pure {g : DTG} {rt : DTT} {re : DTE} {σ : DSt} {Q : List D → Sto → Prop} {S : Sto} (f : D → D) (p : D → Bool) : ∀ (xs acc : List D),
    (∀ x ∈ xs, ∀ (R : DK) (R' : Sto → Prop), (p x = true → R (f x) S) → (p x = false → R' S) → g x σ S fun σ2 S2 => rt DE0 σ2 S2 fun b S3 => if b = true then re DE0 σ2 S3 R else R' S3) →
    acc.length + xs.length ≤ sizeLine → Q (acc ++ (xs.filter p).map f) S → dLcGo g rt re σ Q xs S acc
  | [], acc, _, _, h => by
    have h : Q (acc ++ []) S := h
    rw [List.append_nil] at h; exact h
  | x :: xs, acc, hs, hl, h => by
    have hl' : acc.length + (xs.length + 1) ≤ sizeLine := hl
    refine hs x List.mem_cons_self (fun y S4 => acc.length < sizeLine ∧ dLcGo g rt re σ Q xs S4 (acc ++ [y])) (fun S3 => dLcGo g rt re σ Q xs S3 acc) (fun e => ⟨by omega, ?_⟩) fun e => ?_
    · refine lc_pure f p xs _ (fun y hy => hs y (List.mem_cons_of_mem _ hy)) (by simp; omega) ?_
      simpa [List.filter_cons, e] using h
    · refine lc_pure f p xs _ (fun y hy => hs y (List.mem_cons_of_mem _ hy)) (by omega) ?_
      simpa [List.filter_cons, e] using h
theorem lc_map {g : DTG} {re : DTE} {σ : DSt} {Q : List D → Sto → Prop} {S : Sto} (f : D → D) (xs : List D)
    (hs : ∀ x ∈ xs, ∀ (R : DK), R (f x) S → g x σ S fun σ2 S2 => re DE0 σ2 S2 R) (hl : xs.length ≤ sizeLine) (h : Q (xs.map f) S) : dLcGo g dYes re σ Q xs S [] := by
  refine lc_pure f (fun _ => true) xs [] (fun x hx R R' h1 _ => ?_) (by simpa using hl) (by rw [List.nil_append, List.filter_eq_self.mpr (fun _ _ => rfl)]; exact h)
  have := hs x hx R (h1 rfl)
  simpa [dYes] using this
/-- a comprehension whose steps change the store: I of the list so far -/
theorem lc_eff {g : DTG} {rt : DTT} {re : DTE} {σ : DSt} {Q : List D → Sto → Prop} (I : List D → Sto → Prop) : ∀ (xs acc : List D) (S : Sto),
    (∀ x ∈ xs, ∀ acc S, I acc S → ∀ (R : DK) (R' : Sto → Prop), (∀ y S4, I (acc ++ [y]) S4 → R y S4) → (∀ S4, I acc S4 → R' S4) → g x σ S fun σ2 S2 => rt DE0 σ2 S2 fun b S3 => if b = true then re DE0 σ2 S3 R else R' S3) →
    acc.length + xs.length ≤ sizeLine → I acc S → (∀ acc S, I acc S → Q acc S) → dLcGo g rt re σ Q xs S acc
  | [], acc, S, _, _, h0, h => h acc S h0
  | x :: xs, acc, S, hs, hl, h0, h => by
    have hl' : acc.length + (xs.length + 1) ≤ sizeLine := hl
    refine hs x List.mem_cons_self acc S h0 (fun y S4 => acc.length < sizeLine ∧ dLcGo g rt re σ Q xs S4 (acc ++ [y])) (fun S3 => dLcGo g rt re σ Q xs S3 acc) (fun y S4 hi => ⟨by omega, ?_⟩) fun S4 hi => ?_
    · exact lc_eff I xs _ S4 (fun y hy => hs y (List.mem_cons_of_mem _ hy)) (by simp; omega) hi h
    · exact lc_eff I xs _ S4 (fun y hy => hs y (List.mem_cons_of_mem _ hy)) (by omega) hi h
/-- the same without a test, the items counted -/
theorem lc_draw {g : DTG} {re : DTE} {σ : DSt} {Q : List D → Sto → Prop} {xs : List D} {S : Sto} (I : Nat → List D → Sto → Prop)
    (hs : ∀ i x acc S, xs[i]? = some x → I i acc S → ∀ (R : DK), (∀ y S4, I (i + 1) (acc ++ [y]) S4 → R y S4) → g x σ S fun σ2 S2 => re DE0 σ2 S2 R) (hl : xs.length ≤ sizeLine) (h0 : I 0 [] S) (h : ∀ acc S, I xs.length acc S → Q acc S) : dLcGo g dYes re σ Q xs S [] := by
  have key : ∀ (ys : List D) (k : Nat) (acc : List D) (S : Sto), (∀ i, ys[i]? = xs[k + i]?) → k + ys.length = xs.length → acc.length = k → I k acc S → dLcGo g dYes re σ Q ys S acc := by
    intro ys
    induction ys with
    | nil => intro k acc S _ e _ hi; have e : k = xs.length := by simpa using e
             subst e; exact h acc S hi
    | cons y ys ih =>
      intro k acc S he e ha hi
      have hy : xs[k]? = some y := by have := he 0; simpa using this.symm
      have : g y σ S fun σ2 S2 => re DE0 σ2 S2 fun y S4 => acc.length < sizeLine ∧ dLcGo g dYes re σ Q ys S4 (acc ++ [y]) := by
        refine hs k y acc S hy hi _ fun z S4 hz => ⟨?_, ih (k + 1) _ S4 (fun i => ?_) ?_ ?_ hz⟩
        · rw [ha]; have : k < xs.length := (List.getElem?_eq_some_iff.mp hy).1; omega
        · have := he (i + 1); rw [show k + 1 + i = k + (i + 1) by omega, ← this]; simp
        · simp only [List.length_cons] at e; omega
        · simp [ha]
      show g y σ S fun σ2 S2 => dYes DE0 σ2 S2 fun b S3 => if b = true then re DE0 σ2 S3 fun y S4 => acc.length < sizeLine ∧ dLcGo g dYes re σ Q ys S4 (acc ++ [y]) else dLcGo g dYes re σ Q ys S3 acc
      simpa [dYes] using this
  exact key xs 0 [] S (fun i => by rw [Nat.zero_add]) (by simp) rfl h0
/-- while by an invariant and a measure -/
theorem while_inv {rc : DTT} {rb : DTS} {Z : DEnds} {σ : DSt} {S : Sto} (I : DSt → Sto → Prop) (μ : DSt → Sto → Nat) (h0 : I σ S)
    (hs : ∀ σ S, I σ S → ∀ N : DSt → Sto → Prop, (∀ σ' S', I σ' S' → μ σ' S' < μ σ S → N σ' S') → rc (exOf Z σ) σ S fun b S1 => if b = true then rb { Z with nx := N, ct := N, bk := Z.nx } σ S1 else Z.nx σ S1)
    (mono : ∀ E σ S Q Q', (∀ b S1, Q b S1 → Q' b S1) → rc E σ S Q → rc E σ S Q') : dWhile rc rb Z σ S := by
  refine ⟨fun m σ S => m = μ σ S ∧ I σ S, ⟨_, rfl, h0⟩, ?_⟩
  rintro m σ S ⟨rfl, hi⟩
  refine mono _ _ _ _ _ (fun b S1 q => ?_) (hs σ S hi (fun σ' S' => I σ' S' ∧ μ σ' S' < μ σ S) fun σ' S' h1 h2 => ⟨h1, h2⟩)
  cases b with
  | true =>
    rw [if_pos rfl] at q ⊢
    exact ⟨_, fun σ' S' ⟨h1, h2⟩ => ⟨_, h2, rfl, h1⟩, q⟩
  | false =>
    rw [if_neg Bool.false_ne_true] at q ⊢
    exact q
section
variable {X : Cx} {W : WX} {a : Expr} {ra : DTE} {pos : Pos}
theorem dt_isN {j pos'} (ha : DE X W a ra) : DT X W (.Compare a [.Is] [.Constant .none j pos'] pos) (dTest (dIsN ra)) := by
  obtain ⟨t, p, q⟩ := ha
  refine ⟨_, pt_cmp (pc_isN p), evt_B ⟨fun E G H S σV σ Q P w k s h f => q.run E G H S σV σ _ _ w k s h fun d S' G' H' v hd k' g r => ?_⟩⟩
  rw [non_rep r]; exact f _ S' G' H' _ hd k' g (.bl _)
theorem dt_notN {j pos'} (ha : DE X W a ra) : DT X W (.Compare a [.IsNot] [.Constant .none j pos'] pos) (dTest (dNotN ra)) := by
  obtain ⟨t, p, q⟩ := ha
  refine ⟨_, pt_cmp (pc_notN p), evt_B ⟨fun E G H S σV σ Q P w k s h f => q.run E G H S σV σ _ _ w k s h fun d S' G' H' v hd k' g r => ?_⟩⟩
  rw [non_rep r]; exact f _ S' G' H' _ hd k' g (.bl _)
end
/-! ### of lists that may change: told by what must stand in the store -/
theorem RvD.imp {K : PySem.W.Frag} {r : R2} {q q' : D → D → Sto → DK → Prop} (h : RvD K r q) (i : ∀ x y S Q, q' x y S Q → q x y S Q) : RvD K r q' :=
  ⟨fun G H S x y v u Q P k r1 r2 g p => h.run G H S x y v u Q P k r1 r2 (i _ _ _ _ g) p⟩
theorem RcD.imp {K : PySem.W.Frag} {r : List V → Hp → VK → Prop} {q q' : List D → Sto → DK → Prop} (h : RcD K r q) (i : ∀ xs S Q, q' xs S Q → q xs S Q) : RcD K r q' :=
  ⟨fun G H S xs vs Q P k r1 g p => h.run G H S xs vs Q P k r1 (i _ _ _ g) p⟩
def dIxM : D → D → Sto → DK → Prop := fun x y S Q => ∃ (p : Addr) (xs : List D) (i : Int) (d : D), x = .ref p ∧ y = .int i ∧ S p = some (.lst xs) ∧ atI xs i = some d ∧ Q d S
theorem dix_mut {X : Cx} : DIx X dIxM := let ⟨r, o, e⟩ := dix_seq (X := X); ⟨r, o, e.imp fun x y S Q ⟨p, xs, i, d, h1, h2, h3, h4, h5⟩ => by
  subst h1 h2
  have e : vw S (.ref p) = .lst xs := by simp [vw, h3]
  unfold dIxS
  rw [e]
  exact ⟨d, h4, h5⟩⟩
def dLenM : List D → Sto → DK → Prop := fun ds S Q => ∃ (p : Addr) (xs : List D), ds = [.ref p] ∧ S p = some (.lst xs) ∧ Q (.int xs.length) S
theorem dc_lenM {X : Cx} : DC X (.builtin "len") dLenM := let ⟨r, o, e⟩ := dc_len (X := X); ⟨r, o, e.imp fun ds S Q ⟨p, xs, h1, h2, h3⟩ => by
  subst h1
  have e : vw S (.ref p) = .lst xs := by simp [vw, h2]
  show match vw S (.ref p) with | .lst xs => Q (.int xs.length) S | .tup xs => Q (.int xs.length) S | .scr ns => Q (.int ns.length) S | .str z => z.length ≤ sizeLine ∧ Q (.int z.length) S | _ => False
  rw [e]
  exact h3⟩
def dNeD : D → D → Sto → DK → Prop := fun x y S Q => ∃ p q, toPy x = some p ∧ toPy y = some q ∧ SeqAt.shaped p = true ∧ SeqAt.shaped q = true ∧ Q (.bl (!PyData.eqv p q)) S
end KD

set_option maxRecDepth 100000
set_option maxHeartbeats 4000000
/-! Kd8: texts turned round, texts joined. -/
namespace KD
open PySem PySem.Spec PyProof.Rows L2
section
variable {X : Cx} {W : WX} {e : Expr} {re : DTE} {pos : Pos}
def revStr (z : Str) : Str := ⟨z.cps.toList.reverse.toArray⟩
theorem revStr_pick (z : Str) : ((Builtin.Str.strSliceIndices none none (-1) z.length).filterMap (z.cps[·]?)).toArray = z.cps.toList.reverse.toArray := by
  show ((sliceRange ((z.cps.size : Int) - 1) (-1) (-1)).filterMap (z.cps[·]?)).toArray = _
  rw [PySem.W.krv_sliceRange, PySem.W.krv_range, List.filterMap_reverse, PySem.W.krv_all]
/-- the text whose signs a walk from the end finds -/
def tRevS (te : TE) : TE := fun σ H Q => te σ H fun x H1 => ∃ z : Str, x = .str z ∧ z.length ≤ sizeLine ∧ Q (.str (revStr z)) H1
theorem pe_revS {te : TE} {k : Nat} {p1 p2 p3 : Pos} (he : PE X e te) : PE X (.Subscript e (.Slice none none (some (.UnaryOp .USub (.Constant (.int 1) k p1) p2)) p3) pos) (tRevS te) := by
  constructor
  intro pins s σ H Q I h
  refine Subscript_ (thn (he.run pins s σ H _ I h) fun v s1 ⟨x, H1, I1, r1, z, ez, hz, q⟩ => ?_)
  subst ez
  obtain ⟨tz, rfl⟩ := r1
  have hm : PO X (some (.UnaryOp .USub (.Constant (.int 1) k p1) p2)) (tPart (tUn (rU fun i => .int (-i)) (tC (.int 1)))) := po_some (pe_un un_neg pe_int)
  have nopart : ∀ {t : Shared} {G : Hp}, Inv X pins σ G t → wpAny (model X.prog X.w) X.A (evalPart none X.env) (fun v t' => v = .none ∧ Inv X pins σ G t') X.xe t := fun {t G} J =>
    thn (po_none.run pins t σ G (fun o G' => o = none ∧ G' = G) J ⟨rfl, rfl⟩) fun v t' ⟨o, G', J', po, e1, e2⟩ => by
      subst e1 e2
      obtain ⟨l, rfl, hl⟩ := IsPart.raw po
      cases l with
      | none => exact ⟨rfl, J'⟩
      | some l => cases hl
  refine wpAny_Slice (thn (nopart I1) fun vl s2 ⟨e2, I2⟩ => ?_)
  subst e2
  refine thn (nopart I2) fun vu s3 ⟨e3, I3⟩ => ?_
  subst e3
  refine thn (hm.run pins s3 σ H1 (fun o G => o = some (-1) ∧ G = H1) I3 ⟨1, rfl, -1, rfl, rfl, rfl⟩) fun vs s4 ⟨o, G, I4, po, e4, e5⟩ => ?_
  subst e4 e5
  obtain ⟨st, rfl, hst⟩ := IsPart.raw po
  obtain ⟨m, rfl⟩ : ∃ m, st = some m := by cases st with
    | none => cases hst
    | some m => exact ⟨m, rfl⟩
  obtain ⟨mi, mt⟩ := m
  simp only [Option.map_some, Option.some.injEq] at hst
  subst hst
  have I5 : Inv X pins σ G { s4 with heap := s4.heap.push { cls := .type "slice", data := .fields #[.none, .none, partValue (some (-1, mt))] } } := I4.kept (t' := s4.toks) fun b ob q => Heap.get?_push_of_some _ q
  refine tail_any (ops := [.str z tz, .ref s4.heap.objs.size]) (typeIs_str _ z tz) F.slot_str_getitem.lookup ?_ (by with_unfolding_all rfl)
  refine wpAny_getItem_str_slice (l := none) (u := none) (st := some (-1, mt)) ⟨_, Heap.get?_push_size _ rfl, rfl, rfl⟩ rfl ?_
  unfold sliceMade
  have e : (((Option.map (·.1) (some ((-1 : Int), mt))).getD 1 == 1 && (slicePicked z none none (some (-1, mt))).length == z.length) = true) = False := by
    simp
  rw [if_neg (by rw [e]; exact id)]
  have e2 : ((slicePicked z none none (some (-1, mt))).filterMap (z.cps[·]?)).toArray = z.cps.toList.reverse.toArray := revStr_pick z
  rw [e2]
  refine ⟨?_, .str _, G, I5.tok _, ⟨_, rfl⟩, q⟩
  have e3 : (z.cps.toList.reverse.toArray).size = z.length := by simp [Str.length]
  show (z.cps.toList.reverse.toArray).size ≤ sizeLine
  rw [e3]; exact hz
def dRevS (r : DTE) : DTE := fun E σ S Q => r E σ S fun d S' => match d with
  | .str z => z.length ≤ sizeLine ∧ Q (.str (revStr z)) S'
  | _ => False
theorem de_revS {k : Nat} {p1 p2 p3 : Pos} (he : DE X W e re) : DE X W (.Subscript e (.Slice none none (some (.UnaryOp .USub (.Constant (.int 1) k p1) p2)) p3) pos) (dRevS re) := by
  obtain ⟨t, p, q⟩ := he
  refine ⟨_, pe_revS p, ⟨fun E G H S σV σ Q P w k s h f => ?_⟩⟩
  refine q.run E G H S σV σ _ _ w k s h fun d S' G' H' v hd k' g r => ?_
  cases d with
  | str z => cases r; exact ⟨z, rfl, hd.1, f _ S' G' H' _ hd.2 k' g (.str _)⟩
  | _ => exact hd.elim
/-! ### sep.join(texts) -/
def strsOf : List D → Option (List Str)
  | [] => some []
  | .str z :: r => (strsOf r).map (z :: ·)
  | _ => none
theorem strs_rep {K : PySem.W.Frag} {G : Hp} : ∀ {vs : List V} {xs : List D} {ys : List Str}, RepL K G vs xs → strsOf xs = some ys → vs = ys.map V.str
  | [], _, ys, r, h => by cases r; simp only [strsOf, Option.some.injEq] at h; subst h; rfl
  | v :: vs, _, ys, r, h => by
    cases r with
    | @cons _ _ d ds r1 r2 =>
      cases d <;> simp only [strsOf, reduceCtorEq, Option.map_eq_some_iff] at h
      obtain ⟨zs, h1, rfl⟩ := h
      cases r1
      rw [strs_rep r2 h1]; rfl
def dJoin : D → List D → Sto → DK → Prop := fun x ys S Q => match x, ys with
  | .str a, [d] => ∃ xs zs, (vw S d = .lst xs ∨ vw S d = .tup xs) ∧ strsOf xs = some zs ∧ (zs.map (·.length)).sum + zs.length * a.length ≤ 16777216 ∧ Q (.str (Txt.join a zs)) S
  | _, _ => False
theorem dm_join : DM1 X "str.join" dJoin := ⟨_, mt_join, ⟨fun G H S x ys v vs Q P k r1 r2 h p => by
  unfold dJoin at h
  split at h
  · rename_i a d
    obtain ⟨xs, zs, hd, hz, hl, hq⟩ := h
    obtain ⟨u, rfl, ru⟩ := one_of r2
    cases r1
    rcases hd with hd | hd
    · obtain ⟨a1, us, e1, q1, l1⟩ := seq_of k ru hd
      rw [strs_rep l1 hz] at q1
      exact ⟨a, a1, zs, rfl, by rw [e1], .inl (.of q1), hl, p _ S G H _ hq k (.refl _ _ _) (.str _)⟩
    · obtain ⟨a1, us, e1, q1, l1, _⟩ := tup_of k ru hd
      rw [strs_rep l1 hz] at q1
      exact ⟨a, a1, zs, rfl, by rw [e1], .inr q1.sq, hl, p _ S G H _ hq k (.refl _ _ _) (.str _)⟩
  · exact h.elim⟩⟩
theorem de_join {o : Expr} {ro : DTE} {apos cpos : Pos} (ho : DE X W o ro) (he : DE X W e re) (hbase : attributeBase o "join" X.env (eval o X.env) = eval o X.env := by rfl)
    (hfew : ((backTo cpos (starEach [e] X.env)).all (fun x => !x.1) && (backToKw cpos (keywordEach [] X.env)).all (fun x => x.1.isSome)
      && decide (([e] : List Expr).length + ([] : List Keyword).length + (if ([] : List Keyword).isEmpty then 0 else 1) < 30)) = true := by rfl)
    (hline : (apos.endLine == cpos.line) = true := by rfl) (hs : starEach [e] X.env = (false, eval e X.env) :: starEach [] X.env := by rfl) (hplain : (backTo cpos (starEach [] X.env)).any (·.1) = false := by rfl) :
    DE X W (.Call (.Attribute o "join" apos) [e] [] cpos) (dBM "str" dJoin ro (dCons re dNil)) :=
  de_bm PySem.F.plainAttrs_str PySem.F.slot_str_join PySem.F.type_str_join dm_join ho (da_cons he da_nil hs) hbase hfew hline hs hplain
end
end KD

set_option Elab.async false
set_option linter.all false
set_option maxRecDepth 100000
set_option maxHeartbeats 4000000
namespace Lw
open PySem PySem.Spec PyProof.Rows L2 KD
/-! ### data, as specs speak of it -/
local macro_rules | `(tactic| walk_at "kd") => `(tactic| simp only [dSeq, dIfS, dRet, dRetN, dNext, dAsg, dgName, dgTup, dgCons, dgNil, dDrop, dPar, dPar3, dAug, dVar, dC, dOp, dCall, dFn, dCons, dNil, dTup, dLst, dLstM, dTest, dTru, dTruth, dAnd, dOr, dNot, dAndV, dOrV, dNotV, dIfE, dChain, dIsN, dNotN, dUn, dIxS, dSl, dSlQ, dNoPart, dPart, dBM, dBM0, dAppend, dRaise1, dFrz, dFrzS, dSetIx, dFor, dLoop, dItems, dRange1, dRange2, dEnum, dZip, dLc, dLcL, dLcM, dLcGo, dwipe, dYes, dAdd, dAddM, dSub, dMulG, dMod, dFdiv, dPow, dXor, dLt, dLe, dGt, dGe, dEqG, dNeG, dI0, dI, dAddI, dLen, dList1, dListM, dTuple1, dInt1, dMax2, dMin2, dSum, dAll, dAny, dAllB, dOrd, dIsi, dIn, dNotIn, dInB, vw, tyN, isTy, flatD, eqF, isNon, exOf, dends, dstart, itemsOf, List.set_cons_zero, List.set_cons_succ, List.getElem?_cons_zero, List.getElem?_cons_succ, List.map_cons, List.map_nil, List.length_cons, List.length_nil, List.replicate, List.cons_append, List.nil_append, Nat.reduceAdd, Nat.reduceSub, if_true, if_false, if_pos, Bool.false_eq_true, Bool.not_true, Bool.not_false, and_true, true_and])
/-- the value that a raise keeps -/
def errV (E : DEr) (C : Addr) (S : Sto) (d : D) : Prop := ∀ p, S p = none → E C p (put S p (.xd [("value", d)]))
def isIntD : D → Bool
  | .int _ => true
  | _ => false
def withinD (d : D) (lo hi : Int) : Bool := match d with
  | .int i => decide (lo ≤ i) && decide (i ≤ hi)
  | _ => false
def isOctD (d : D) : Bool := withinD d 0 255
def isRowD : D → Bool
  | .lst _ => true
  | .tup _ => true
  | _ => false
theorem vw_ty {S : Sto} {d : D} (h : (tyN d).isSome = true) : vw S d = d := by cases d <;> first | rfl | (simp [tyN] at h)
theorem size_of {n : Nat} (h : n ≤ 1000000) : n ≤ sizeLine := Nat.le_trans h (by decide)
theorem size_lt {n : Nat} (h : n < 1000000) : n < sizeLine := Nat.lt_of_lt_of_le h (by decide)
theorem mul_ok (k j : Int) (h1 : -(2 ^ 64) < k) (h2 : k < 2 ^ 64) : IntMulOk k j := CMul.ok (.inl ⟨h1, h2⟩)
theorem mul_okR (k j : Int) (h1 : -(2 ^ 64) < j) (h2 : j < 2 ^ 64) : IntMulOk k j := CMul.ok (.inr ⟨h1, h2⟩)
theorem vw_ref {S : Sto} {p : Addr} {xs : List D} (h : S p = some (.lst xs)) : vw S (.ref p) = .lst xs := by simp [vw, h]
theorem ix_scr {S : Sto} {ns : List Int} {i n : Int} {Q : DK} (e : atI ns i = some n) (q : Q (.int n) S) : dIxS (.scr ns) (.int i) S Q := ⟨n, e, q⟩
theorem fdivW {i j : Int} (h : 0 < j) (h2 : j < 2 ^ 64) : CDivW i j := wide_div (b := 64) h (by omega) (by decide) (by decide)
theorem put_comm {S : Sto} {p q : Addr} {m n : DM} (h : p ≠ q) : put (put S p m) q n = put (put S q n) p m := by
  funext b
  by_cases h1 : b = p
  · subst h1; rw [put_ne h, put_same, put_same]
  · by_cases h2 : b = q
    · subst h2; rw [put_same, put_ne h1, put_same]
    · rw [put_ne h2, put_ne h1, put_ne h1, put_ne h2]
theorem eqF_refl : ∀ {d : D}, flatD d = true → eqF d d = true
  | .non, _ => rfl
  | .bl b, _ => by cases b <;> rfl
  | .int i, _ => by simp [eqF]
  | .str x, _ => by simp [eqF]
theorem eqG_flat {x y : D} {S : Sto} {Q : DK} (hx : flatD x = true) (hy : flatD y = true) (h : Q (.bl (eqF x y)) S) : dEqG x y S Q := by
  unfold dEqG; rw [hx, hy]; exact h
theorem neG_flat {x y : D} {S : Sto} {Q : DK} (hx : flatD x = true) (hy : flatD y = true) (h : Q (.bl (!eqF x y)) S) : dNeG x y S Q := by
  unfold dNeG; rw [hx, hy]; exact h
theorem eqG_nil {S : Sto} {Q : DK} (h : Q (.bl true) S) : dEqG (.lst []) (.lst []) S Q :=
  ⟨.list [], .list [], rfl, rfl, rfl, rfl, h⟩
theorem cut_take {xs : List D} {n : Int} (h : 0 ≤ n) : KD.cutD xs none (some n) = xs.take n.toNat := by
  have h3 := HT.sIx_nat xs.length xs.length n.toNat
  rw [Int.toNat_of_nonneg h] at h3
  unfold KD.cutD
  rw [HT.sIx_none, h3, List.drop_zero, Nat.sub_zero]
  exact List.take_eq_take_iff.mpr (by omega)
theorem atI_nat {α : Type} {xs : List α} {r : Int} (h0 : 0 ≤ r) (h : r < (xs.length : Int)) : atI xs r = some (xs[r.toNat]'(by omega)) := by
  unfold atI ixN
  rw [if_pos h0, if_pos h]
  exact List.getElem?_eq_getElem (by omega)
theorem atI_ints {xs : List Int} {i : Nat} (h : i < xs.length) : atI (xs.map D.int) (0 + (i : Nat)) = some (.int xs[i]) := by
  rw [atI_nat (by omega) (by simp; omega)]
  have e : (0 + ((i : Nat) : Int)).toNat = i := by omega
  simp only [e, List.getElem_map]
theorem toPyL_ints : ∀ ns : List Int, toPyL (ns.map .int) = some (ns.map .int)
  | [] => rfl
  | n :: ns => by rw [List.map_cons, toPyL, toPyL_ints ns]; rfl
theorem lay_ints : ∀ ns : List Int, PyData.canLayAll0 (ns.map .int) = true
  | [] => rfl
  | n :: ns => by rw [List.map_cons, PyData.canLayAll0, lay_ints ns]; rfl
theorem depth_ints : ∀ ns : List Int, PyData.depthAll (ns.map .int) = 0
  | [] => rfl
  | n :: ns => by rw [List.map_cons, PyData.depthAll, depth_ints ns]; rfl
theorem eqv_ints : ∀ ns : List Int, PyData.eqvAll (ns.map .int) (ns.map .int) = true
  | [] => rfl
  | n :: ns => by rw [List.map_cons, PyData.eqvAll, eqv_ints ns]; simp [PyData.eqv]
theorem shaped_ints (ns : List Int) : SeqAt.shaped (.list (ns.map .int)) = true := by
  unfold SeqAt.shaped
  rw [PyData.canLay0, lay_ints, PyData.depth, depth_ints]; rfl
theorem py_ints (ns : List Int) : toPy (.lst (ns.map .int)) = some (.list (ns.map .int)) := by rw [toPy, toPyL_ints]; rfl
theorem eqv_intsL (ns : List Int) : PyData.eqv (.list (ns.map .int)) (.list (ns.map .int)) = true := by rw [PyData.eqv, eqv_ints]
/-! ### texts by their signs -/
def T (cs : List Nat) : Str := ⟨cs.toArray⟩
theorem T_len (cs : List Nat) : (T cs).length = cs.length := by simp [T, Str.length]
theorem T_eq (z : Str) : z = T z.cps.toList := by cases z; simp [T]
theorem T_app (a b : List Nat) : T a ++ T b = T (a ++ b) := by
  show Str.append (T a) (T b) = _
  simp [Str.append, T]
theorem T_rev (cs : List Nat) : revStr (T cs) = T cs.reverse := by simp [revStr, T]
theorem T_inj {a b : List Nat} (h : T a = T b) : a = b := by simpa [T] using h
theorem T_signs (cs : List Nat) : KD.signs (T cs) = cs.map fun c => D.str (T [c]) := by simp [KD.signs, T]
theorem T_cut {cs : List Nat} {n : Int} (h : 0 ≤ n) : cutS (T cs) none (some n) = T (cs.take n.toNat) := by
  have h3 := HT.sIx_nat cs.length cs.length n.toNat
  rw [Int.toNat_of_nonneg h] at h3
  unfold cutS
  rw [HT.sIx_none, T_len, h3, List.drop_zero, Nat.sub_zero]
  show (⟨_⟩ : Str) = ⟨_⟩
  congr 2
  show List.take _ (cs.toArray.toList) = _
  rw [show cs.toArray.toList = cs from rfl]
  exact List.take_eq_take_iff.mpr (by omega)
theorem T_joinE : ∀ cs : List Nat, Str.join (T []) (cs.map fun c => T [c]) = T cs
  | [] => rfl
  | [c] => rfl
  | c :: d :: r => by
    show T [c] ++ T [] ++ Str.join (T []) ((d :: r).map fun c => T [c]) = _
    rw [T_joinE (d :: r), T_app, T_app]
    rfl
theorem T_join (cs : List Nat) : Txt.join (T []) (cs.map fun c => T [c]) = T cs := by
  show Builtin.Str.glued _ _ = _
  rw [StrLaws.glued_eq_join]
  exact T_joinE cs
theorem strsOf_T : ∀ cs : List Nat, strsOf (cs.map fun c => .str (T [c])) = some (cs.map fun c => T [c])
  | [] => rfl
  | c :: r => by
    show (strsOf (r.map fun c => .str (T [c]))).map (T [c] :: ·) = _
    rw [strsOf_T r]; rfl
theorem sum_T (cs : List Nat) : ((cs.map fun c => T [c]).map (·.length)).sum = cs.length := by
  induction cs with
  | nil => rfl
  | cons c r ih =>
    simp only [List.map_cons, List.sum_cons, ih, List.length_cons, T_len]
    simp; omega
def enumFr : List D → Nat → List D
  | [], _ => []
  | x :: r, k => .tup [.int (k : Nat), x] :: enumFr r (k + 1)
theorem enumFr_get : ∀ (xs : List D) (k i : Nat), (enumFr xs k)[i]? = xs[i]?.map fun x => .tup [.int ((k + i : Nat) : Int), x]
  | [], k, i => by simp [enumFr]
  | x :: r, k, 0 => by simp [enumFr]
  | x :: r, k, i + 1 => by
    simp only [enumFr, List.getElem?_cons_succ]
    rw [enumFr_get r (k + 1) i, show k + 1 + i = k + (i + 1) by omega]
theorem enumD_fr (xs : List D) : enumD xs = enumFr xs 0 := by
  apply List.ext_getElem?
  intro i
  rw [enumFr_get]
  unfold enumD
  rw [List.getElem?_map]
  by_cases h : i < xs.length
  · simp [h]
  · simp [h]

def topS (i : Nat) : Stmt := PySem.Challenge.pw_sparehouses_k43_slots.main.body.getD i (.Pass ⟨0, 0, 0, 0⟩)
/-! ### is_integer -/
abbrev s_is_integer : Stmt := topS 10
abbrev N_is_integer : List Str := ["thing"]
theorem sc_is_integer : FnScope N_is_integer ["thing"] (defScope s_is_integer) := ⟨rfl, rfl, rfl, by decide +kernel, rfl, by decide +kernel, by decide +kernel⟩
def sp_is_integer (C : Str → Addr) : DSp := fun ds S Q E => match ds with
  | [d] => (tyN d).isSome = true ∧ Q (.bl (isIntD d)) S
  | _ => False

def r_is_integer (C : Str → Addr) : DTS := (dRet (dAndV (dCall dIsi (dCons (dVar 0) (dCons (dC (.ty "int")) dNil))) (dNotV (dCall dIsi (dCons (dVar 0) (dCons (dC (.ty "bool")) dNil))))))
theorem pure_is_integer (C : Str → Addr) : ∀ ds S Q E, sp_is_integer C ds S Q E → r_is_integer C (dends Q E) (dstart N_is_integer ds) S := by
  intro ds S Q E h
  unfold sp_is_integer at h
  split at h
  · rename_i d
    obtain ⟨h1, h2⟩ := h
    cases d <;> first | (simp [tyN] at h1; done) | exact h2
  · exact h.elim

theorem has_is_integer {P : Program} {w : World} {K : PySem.W.Frag} {mg : Str → Option Value} {base : Heap} (C : Str → Addr) (A : At K mg "is_integer" s_is_integer ["thing"]) (z_bool : mg "bool" = none) (z_int : mg "int" = none) (z_isinstance : mg "isinstance" = none) : Has P w K mg base 1 "is_integer" ["thing"] (sp_is_integer C) := by
  refine okH (k := 0) A sc_is_integer (fun ds S Q E h => by unfold sp_is_integer  at h; (repeat' split at h) <;> first | rfl | exact h.elim) fun f cdv A outer s H E hr => ⟨r_is_integer C, ?_, pure_is_integer C⟩
  exact (dss_one (ds_ret (de_and (de_callB dc_isi (by rfl) z_isinstance (by decide +kernel) (da_cons (de_var 0) (da_cons (de_ty (by rfl) z_int boot_int) da_nil))) (de_one (de_not (de_callB dc_isi (by rfl) z_isinstance (by decide +kernel) (da_cons (de_var 0) (da_cons (de_ty (by rfl) z_bool boot_bool) da_nil))))))))
/-! ### is_within -/
abbrev s_is_within : Stmt := topS 11
abbrev N_is_within : List Str := ["thing", "least", "most"]
theorem sc_is_within : FnScope N_is_within ["thing", "least", "most"] (defScope s_is_within) := ⟨rfl, rfl, rfl, by decide +kernel, rfl, by decide +kernel, by decide +kernel⟩
def sp_is_within (C : Str → Addr) : DSp := fun ds S Q E => match ds with
  | [d, .int lo, .int hi] => (tyN d).isSome = true ∧ Q (.bl (withinD d lo hi)) S
  | _ => False

def r_is_within (C : Str → Addr) : DTS := (dRet (dAndV (dFn (sp_is_integer C) (dCons (dVar 0) dNil)) (dChain dLe dLe (dVar 1) (dVar 0) (dVar 2))))
theorem pure_is_within (C : Str → Addr) : ∀ ds S Q E, sp_is_within C ds S Q E → r_is_within C (dends Q E) (dstart N_is_within ds) S := by
  intro ds S Q E h
  unfold sp_is_within at h
  split at h
  · rename_i d lo hi
    obtain ⟨h1, h2⟩ := h
    refine ⟨h1, ?_⟩
    cases d <;> first | (simp [tyN] at h1; done) | exact h2 | skip
    rename_i i
    simp only [withinD] at h2
    show (if decide (lo ≤ i) = true then Q (.bl (decide (i ≤ hi))) S else Q (.bl false) S)
    cases e : decide (lo ≤ i) <;> (rw [e] at h2; simpa using h2)
  · exact h.elim

theorem has_is_within {P : Program} {w : World} {K : PySem.W.Frag} {mg : Str → Option Value} {base : Heap} (C : Str → Addr) (A : At K mg "is_within" s_is_within ["thing", "least", "most"]) (D_is_integer : Has P w K mg base 1 "is_integer" ["thing"] (sp_is_integer C)) : Has P w K mg base 2 "is_within" ["thing", "least", "most"] (sp_is_within C) := by
  refine okH (k := 1) A sc_is_within (fun ds S Q E h => by unfold sp_is_within  at h; (repeat' split at h) <;> first | rfl | exact h.elim) fun f cdv A outer s H E hr => ⟨r_is_within C, ?_, pure_is_within C⟩
  exact (dss_one (ds_ret (de_and (de_has (takes_of rfl rfl rfl rfl) D_is_integer (hr.mono (by decide)) (by rfl) (da_cons (de_var 0) da_nil)) (de_one (de_chain' dop_le dop_le (de_var 1) (de_var 0) (de_var 2))))))
/-! ### is_text -/
abbrev s_is_text : Stmt := topS 12
abbrev N_is_text : List Str := ["thing", "sign"]
theorem sc_is_text : FnScope N_is_text ["thing"] (defScope s_is_text) := ⟨rfl, rfl, rfl, by decide +kernel, rfl, by decide +kernel, by decide +kernel⟩
/-- is_text of a text: each sign is one of SIGNS -/
def signsS : Str := " !\"#$&'()*+,-./0123456789:;<=>?@ABCDEFGHIJKLMNOPQRSTUVWXYZ[\\]^_`abcdefghijklmnopqrstuvwxyz{|}~"
def okSigns (cs : List Nat) : Bool := cs.all fun c => inStr (T [c]) signsS
def isTextD : D → Bool
  | .str z => okSigns z.cps.toList
  | _ => false
def shortD : D → Prop
  | .str z => z.length ≤ 1000000
  | _ => True
def sp_is_text (C : Str → Addr) : DSp := fun ds S Q E => match ds with
  | [d] => (tyN d).isSome = true ∧ shortD d ∧ Q (.bl (isTextD d)) S
  | _ => False

def r_is_text (C : Str → Addr) : DTS := (dRet (dAndV (dCall dIsi (dCons (dVar 0) (dCons (dC (.ty "str")) dNil))) (dCall dAll (dCons (dLc (dItems (dVar 0)) (dgName 1) dYes (dOp dIn (dVar 1) (dC (.str " !\"#$&'()*+,-./0123456789:;<=>?@ABCDEFGHIJKLMNOPQRSTUVWXYZ[\\]^_`abcdefghijklmnopqrstuvwxyz{|}~"))) [1]) dNil))))
theorem blsOf_map {α : Type} (f : α → Bool) : ∀ xs : List α, blsOf (xs.map fun x => .bl (f x)) = some (xs.map f)
  | [] => rfl
  | x :: xs => by
    show (blsOf (xs.map fun x => .bl (f x))).map (f x :: ·) = _
    rw [blsOf_map f xs]; rfl
theorem pure_is_text (C : Str → Addr) : ∀ ds S Q E, sp_is_text C ds S Q E → r_is_text C (dends Q E) (dstart N_is_text ds) S := by
  intro ds S Q E h
  unfold sp_is_text at h
  split at h
  · rename_i d
    obtain ⟨h1, h2, h3⟩ := h
    cases d with
    | str z =>
      have e := T_eq z
      generalize z.cps.toList = cs at e
      subst e
      have e1 : itemsOf (.str (T cs)) = some (cs.map fun c => .str (T [c])) := by rw [← T_signs]; rfl
      show (match itemsOf (.str (T cs)) with | some xs => dLcGo _ _ _ _ _ xs _ _ | none => False)
      rw [e1]
      refine lc_map (fun d => match d with | .str x => .bl (inStr x signsS) | d => d) _ (fun x hx R hR => ?_) ?_ ?_
      · obtain ⟨c, _, rfl⟩ := List.mem_map.mp hx
        exact hR
      · have h2 : (T cs).length ≤ 1000000 := h2
        rw [T_len] at h2
        rw [List.length_map]; exact size_of h2
      · rw [List.map_map]
        refine ⟨cs.map fun c => inStr (T [c]) signsS, blsOf_map _ _, ?_⟩
        show Q (.bl ((cs.map fun c => inStr (T [c]) signsS).all id)) S
        rw [List.all_map]
        exact h3
    | _ => first | (simp [tyN] at h1; done) | exact h3
  · exact h.elim

theorem has_is_text {P : Program} {w : World} {K : PySem.W.Frag} {mg : Str → Option Value} {base : Heap} (C : Str → Addr) (A : At K mg "is_text" s_is_text ["thing"]) (z_all : mg "all" = none) (z_isinstance : mg "isinstance" = none) (z_str : mg "str" = none) (c_SIGNS : ∃ t, mg "SIGNS" = some (.str " !\"#$&'()*+,-./0123456789:;<=>?@ABCDEFGHIJKLMNOPQRSTUVWXYZ[\\]^_`abcdefghijklmnopqrstuvwxyz{|}~" t)) : Has P w K mg base 1 "is_text" ["thing"] (sp_is_text C) := by
  obtain ⟨t_SIGNS, c_SIGNS⟩ := c_SIGNS
  refine okH (k := 0) A sc_is_text (fun ds S Q E h => by unfold sp_is_text  at h; (repeat' split at h) <;> first | rfl | exact h.elim) fun f cdv A outer s H E hr => ⟨r_is_text C, ?_, pure_is_text C⟩
  exact (dss_one (ds_ret (de_and (de_callB dc_isi (by rfl) z_isinstance (by decide +kernel) (da_cons (de_var 0) (da_cons (de_ty (by rfl) z_str boot_str) da_nil))) (de_one (de_callB (dc_all rfl) (by rfl) z_all (by decide +kernel) (da_cons (de_lc rfl sc_is_text.nd (di_seq (de_var 0)) (blkOk_by (own := [("sign", 1)]) (N := N_is_text) (sc := defScope s_is_text) (by decide +kernel)) (fun _ _ _ _ _ => (dg_name (i := 1) sc_is_text.nd rfl (Or.inl rfl))) (fun _ _ _ _ _ => dts_nil) (fun _ _ _ _ _ => (de_cmp dop_in (de_var 1) (de_globS (by rfl) c_SIGNS))) rfl (by decide)) da_nil))))))
/-! ### is_label -/
abbrev s_is_label : Stmt := topS 13
abbrev N_is_label : List Str := ["thing"]
theorem sc_is_label : FnScope N_is_label ["thing"] (defScope s_is_label) := ⟨rfl, rfl, rfl, by decide +kernel, rfl, by decide +kernel, by decide +kernel⟩
def isLabelD : D → Bool
  | .str z => okSigns z.cps.toList && decide (z.length ≤ 20)
  | _ => false
def sp_is_label (C : Str → Addr) : DSp := fun ds S Q E => match ds with
  | [d] => (tyN d).isSome = true ∧ shortD d ∧ Q (.bl (isLabelD d)) S
  | _ => False

def r_is_label (C : Str → Addr) : DTS := (dRet (dAndV (dFn (sp_is_text C) (dCons (dVar 0) dNil)) (dOp dLe (dCall dLen (dCons (dVar 0) dNil)) (dC (.int 20)))))
theorem pure_is_label (C : Str → Addr) : ∀ ds S Q E, sp_is_label C ds S Q E → r_is_label C (dends Q E) (dstart N_is_label ds) S := by
  intro ds S Q E h
  unfold sp_is_label at h
  split at h
  · rename_i d
    obtain ⟨h1, h2, h3⟩ := h
    refine ⟨h1, h2, ?_⟩
    cases d with
    | str z =>
      show if okSigns z.cps.toList = true then _ else _
      have h3 : Q (.bl (okSigns z.cps.toList && decide (z.length ≤ 20))) S := h3
      cases e : okSigns z.cps.toList with
      | true =>
        rw [e] at h3
        refine ⟨size_of h2, ?_⟩
        have e2 : decide ((z.length : Int) ≤ 20) = decide (z.length ≤ 20) := decide_eq_decide.mpr (by omega)
        show Q (.bl (decide ((z.length : Int) ≤ 20))) S
        rw [e2]; exact h3
      | false => rw [e] at h3; exact h3
    | _ => first | (simp [tyN] at h1; done) | exact h3
  · exact h.elim

theorem has_is_label {P : Program} {w : World} {K : PySem.W.Frag} {mg : Str → Option Value} {base : Heap} (C : Str → Addr) (A : At K mg "is_label" s_is_label ["thing"]) (D_is_text : Has P w K mg base 1 "is_text" ["thing"] (sp_is_text C)) (z_len : mg "len" = none) (c_MOST_LABEL : ∃ t, mg "MOST_LABEL" = some (.int 20 t)) : Has P w K mg base 2 "is_label" ["thing"] (sp_is_label C) := by
  obtain ⟨t_MOST_LABEL, c_MOST_LABEL⟩ := c_MOST_LABEL
  refine okH (k := 1) A sc_is_label (fun ds S Q E h => by unfold sp_is_label  at h; (repeat' split at h) <;> first | rfl | exact h.elim) fun f cdv A outer s H E hr => ⟨r_is_label C, ?_, pure_is_label C⟩
  exact (dss_one (ds_ret (de_and (de_has (takes_of rfl rfl rfl rfl) D_is_text (hr.mono (by decide)) (by rfl) (da_cons (de_var 0) da_nil)) (de_one (de_cmp dop_le (de_callB dc_len (by rfl) z_len (by decide +kernel) (da_cons (de_var 0) da_nil)) (de_globI (by rfl) c_MOST_LABEL))))))
/-! ### is_tag -/
abbrev s_is_tag : Stmt := topS 14
abbrev N_is_tag : List Str := ["thing"]
theorem sc_is_tag : FnScope N_is_tag ["thing"] (defScope s_is_tag) := ⟨rfl, rfl, rfl, by decide +kernel, rfl, by decide +kernel, by decide +kernel⟩
def isTagD : D → Bool
  | .str z => okSigns z.cps.toList && decide (z.length ≤ 20) && !(z == (""  : Str))
  | _ => false
def sp_is_tag (C : Str → Addr) : DSp := fun ds S Q E => match ds with
  | [d] => (tyN d).isSome = true ∧ shortD d ∧ Q (.bl (isTagD d)) S
  | _ => False

def r_is_tag (C : Str → Addr) : DTS := (dRet (dAndV (dFn (sp_is_label C) (dCons (dVar 0) dNil)) (dOp dNeG (dVar 0) (dC (.str "")))))
theorem pure_is_tag (C : Str → Addr) : ∀ ds S Q E, sp_is_tag C ds S Q E → r_is_tag C (dends Q E) (dstart N_is_tag ds) S := by
  intro ds S Q E h
  unfold sp_is_tag at h
  split at h
  · rename_i d
    obtain ⟨h1, h2, h3⟩ := h
    refine ⟨h1, h2, ?_⟩
    cases d with
    | str z =>
      show if (okSigns z.cps.toList && decide (z.length ≤ 20)) = true then _ else _
      have h3 : Q (.bl (okSigns z.cps.toList && decide (z.length ≤ 20) && !(z == ("" : Str)))) S := h3
      cases e : (okSigns z.cps.toList && decide (z.length ≤ 20)) with
      | true => rw [e] at h3; exact h3
      | false => rw [e] at h3; exact h3
    | _ => first | (simp [tyN] at h1; done) | exact h3
  · exact h.elim

theorem has_is_tag {P : Program} {w : World} {K : PySem.W.Frag} {mg : Str → Option Value} {base : Heap} (C : Str → Addr) (A : At K mg "is_tag" s_is_tag ["thing"]) (D_is_label : Has P w K mg base 2 "is_label" ["thing"] (sp_is_label C)) : Has P w K mg base 3 "is_tag" ["thing"] (sp_is_tag C) := by
  refine okH (k := 2) A sc_is_tag (fun ds S Q E h => by unfold sp_is_tag  at h; (repeat' split at h) <;> first | rfl | exact h.elim) fun f cdv A outer s H E hr => ⟨r_is_tag C, ?_, pure_is_tag C⟩
  exact (dss_one (ds_ret (de_and (de_has (takes_of rfl rfl rfl rfl) D_is_label (hr.mono (by decide)) (by rfl) (da_cons (de_var 0) da_nil)) (de_one (de_cmp (dop_neG hr.units) (de_var 0) de_str)))))
/-! ### check_key -/
abbrev s_check_key : Stmt := topS 17
abbrev N_check_key : List Str := ["key"]
theorem sc_check_key : FnScope N_check_key ["key"] (defScope s_check_key) := ⟨rfl, rfl, rfl, by decide +kernel, rfl, by decide +kernel, by decide +kernel⟩
def sp_check_key (C : Str → Addr) : DSp := fun ds S Q E => match ds with
  | [d] => (tyN d).isSome = true ∧ (withinD d 0 65535 = true → Q .non S) ∧ (withinD d 0 65535 = false → errV E (C "BadKey") S d)
  | _ => False

def r_check_key (C : Str → Addr) : DTS := (dIfS (dNot (dTru (dFn (sp_is_within C) (dCons (dVar 0) (dCons (dC (.int 0)) (dCons (dC (.int 65535)) dNil))))))
 (dRaise1 (C "BadKey") "value" (dCons (dVar 0) dNil))
 dNext)
theorem pure_check_key (C : Str → Addr) : ∀ ds S Q E, sp_check_key C ds S Q E → r_check_key C (dends Q E) (dstart N_check_key ds) S := by
  intro ds S Q E h
  unfold sp_check_key at h
  split at h
  · rename_i d
    obtain ⟨h1, h2, h3⟩ := h
    refine ⟨h1, ?_⟩
    show (if (!withinD d 0 65535) = true then _ else _)
    cases e : withinD d 0 65535
    · exact h3 e
    · exact h2 e
  · exact h.elim

theorem has_check_key {P : Program} {w : World} {K : PySem.W.Frag} {mg : Str → Option Value} {base : Heap} (C : Str → Addr) (A : At K mg "check_key" s_check_key ["key"]) (D_is_within : Has P w K mg base 2 "is_within" ["thing", "least", "most"] (sp_is_within C)) (c_MOST_KEY : ∃ t, mg "MOST_KEY" = some (.int 65535 t)) (X_BadKey : ErrC K mg P w base "BadKey" (C "BadKey") "value" [] []) : Has P w K mg base 3 "check_key" ["key"] (sp_check_key C) := by
  obtain ⟨t_MOST_KEY, c_MOST_KEY⟩ := c_MOST_KEY
  refine okH (k := 2) A sc_check_key (fun ds S Q E h => by unfold sp_check_key  at h; (repeat' split at h) <;> first | rfl | exact h.elim) fun f cdv A outer s H E hr => ⟨r_check_key C, ?_, pure_check_key C⟩
  exact (dss_one (ds_if (dt_not (dt_truth (de_has (takes_of rfl rfl rfl rfl) D_is_within (hr.mono (by decide)) (by rfl) (da_cons (de_var 0) (da_cons de_int (da_cons (de_globI (by rfl) c_MOST_KEY) da_nil))))))
 (dss_one (ds_raise1 rfl (takes_of rfl rfl rfl rfl) X_BadKey (hr.mono (by decide)) (by rfl) (da_cons (de_var 0) da_nil)))
 dss_nil))
/-! ### check_phrase -/
abbrev s_check_phrase : Stmt := topS 22
abbrev N_check_phrase : List Str := ["phrase"]
theorem sc_check_phrase : FnScope N_check_phrase ["phrase"] (defScope s_check_phrase) := ⟨rfl, rfl, rfl, by decide +kernel, rfl, by decide +kernel, by decide +kernel⟩
def isPhraseD : D → Bool
  | .str z => okSigns z.cps.toList && (decide (1 ≤ z.length) && decide (z.length ≤ 40))
  | _ => false
@[irreducible] def sp_check_phrase (C : Str → Addr) : DSp := fun ds S Q E => match ds with
  | [d] => (tyN d).isSome = true ∧ shortD d ∧ (isPhraseD d = true → Q .non S) ∧ (isPhraseD d = false → errV E (C "BadPhrase") S d)
  | _ => False

def r_check_phrase (C : Str → Addr) : DTS := (dIfS (dOr (dNot (dTru (dFn (sp_is_text C) (dCons (dVar 0) dNil)))) (dNot (dTest (dChain dLe dLe (dC (.int 1)) (dCall dLen (dCons (dVar 0) dNil)) (dC (.int 40))))))
 (dRaise1 (C "BadPhrase") "value" (dCons (dVar 0) dNil))
 dNext)
theorem pure_check_phrase (C : Str → Addr) : ∀ ds S Q E, sp_check_phrase C ds S Q E → r_check_phrase C (dends Q E) (dstart N_check_phrase ds) S := by
  intro ds S Q E h
  unfold sp_check_phrase at h
  split at h
  · rename_i d
    obtain ⟨h1, h2, h3, h4⟩ := h
    refine ⟨h1, h2, ?_⟩
    cases d with
    | str z =>
      show if (!okSigns z.cps.toList) = true then _ else _
      cases e : okSigns z.cps.toList with
      | false => exact h4 (by simp [isPhraseD, e])
      | true =>
        refine ⟨size_of h2, ?_⟩
        show if decide ((1 : Int) ≤ (z.length : Int)) = true then _ else _
        by_cases c1 : 1 ≤ z.length
        · have e1 : decide ((1 : Int) ≤ z.length) = true := decide_eq_true (by omega)
          rw [e1, if_pos rfl]
          show if (!decide ((z.length : Int) ≤ 40)) = true then _ else _
          by_cases c2 : z.length ≤ 40
          · rw [show decide ((z.length : Int) ≤ 40) = true from decide_eq_true (by omega)]
            exact h3 (by simp [isPhraseD, e, c1, c2])
          · rw [show decide ((z.length : Int) ≤ 40) = false from decide_eq_false (by omega)]
            exact h4 (by simp [isPhraseD, c2])
        · have e1 : decide ((1 : Int) ≤ z.length) = false := decide_eq_false (by omega)
          rw [e1, if_neg Bool.false_ne_true]
          exact h4 (by simp [isPhraseD, c1])
    | _ => first | (simp [tyN] at h1; done) | exact h4 rfl
  · exact h.elim

theorem has_check_phrase {P : Program} {w : World} {K : PySem.W.Frag} {mg : Str → Option Value} {base : Heap} (C : Str → Addr) (A : At K mg "check_phrase" s_check_phrase ["phrase"]) (D_is_text : Has P w K mg base 1 "is_text" ["thing"] (sp_is_text C)) (z_len : mg "len" = none) (c_MOST_PHRASE : ∃ t, mg "MOST_PHRASE" = some (.int 40 t)) (X_BadPhrase : ErrC K mg P w base "BadPhrase" (C "BadPhrase") "value" [] []) : Has P w K mg base 3 "check_phrase" ["phrase"] (sp_check_phrase C) := by
  obtain ⟨t_MOST_PHRASE, c_MOST_PHRASE⟩ := c_MOST_PHRASE
  refine okH (k := 2) A sc_check_phrase (fun ds S Q E h => by unfold sp_check_phrase  at h; (repeat' split at h) <;> first | rfl | exact h.elim) fun f cdv A outer s H E hr => ⟨r_check_phrase C, ?_, pure_check_phrase C⟩
  exact (dss_one (ds_if (DW.dt (dw_or (dt_not (dt_truth (de_has (takes_of rfl rfl rfl rfl) D_is_text (hr.mono (by decide)) (by rfl) (da_cons (de_var 0) da_nil)))) (dw_or1 (dt_not (dt_chain dop_le dop_le de_int (de_callB dc_len (by rfl) z_len (by decide +kernel) (da_cons (de_var 0) da_nil)) (de_globI (by rfl) c_MOST_PHRASE))))))
 (dss_one (ds_raise1 rfl (takes_of rfl rfl rfl rfl) X_BadPhrase (hr.mono (by decide)) (by rfl) (da_cons (de_var 0) da_nil)))
 dss_nil))
/-! ### check_salt -/
abbrev s_check_salt : Stmt := topS 23
abbrev N_check_salt : List Str := ["salt"]
theorem sc_check_salt : FnScope N_check_salt ["salt"] (defScope s_check_salt) := ⟨rfl, rfl, rfl, by decide +kernel, rfl, by decide +kernel, by decide +kernel⟩
@[irreducible] def sp_check_salt (C : Str → Addr) : DSp := fun ds S Q E => match ds with
  | [d] => (tyN d).isSome = true ∧ (withinD d 0 65535 = true → Q .non S) ∧ (withinD d 0 65535 = false → errV E (C "BadSalt") S d)
  | _ => False

def r_check_salt (C : Str → Addr) : DTS := (dIfS (dNot (dTru (dFn (sp_is_within C) (dCons (dVar 0) (dCons (dC (.int 0)) (dCons (dC (.int 65535)) dNil))))))
 (dRaise1 (C "BadSalt") "value" (dCons (dVar 0) dNil))
 dNext)
theorem pure_check_salt (C : Str → Addr) : ∀ ds S Q E, sp_check_salt C ds S Q E → r_check_salt C (dends Q E) (dstart N_check_salt ds) S := by
  intro ds S Q E h
  unfold sp_check_salt at h
  split at h
  · rename_i d
    obtain ⟨h1, h2, h3⟩ := h
    refine ⟨h1, ?_⟩
    show if (!withinD d 0 65535) = true then _ else _
    cases e : withinD d 0 65535
    · exact h3 e
    · exact h2 e
  · exact h.elim

theorem has_check_salt {P : Program} {w : World} {K : PySem.W.Frag} {mg : Str → Option Value} {base : Heap} (C : Str → Addr) (A : At K mg "check_salt" s_check_salt ["salt"]) (D_is_within : Has P w K mg base 2 "is_within" ["thing", "least", "most"] (sp_is_within C)) (c_MOST_NUMBER : ∃ t, mg "MOST_NUMBER" = some (.int 65535 t)) (X_BadSalt : ErrC K mg P w base "BadSalt" (C "BadSalt") "value" [] []) : Has P w K mg base 3 "check_salt" ["salt"] (sp_check_salt C) := by
  obtain ⟨t_MOST_NUMBER, c_MOST_NUMBER⟩ := c_MOST_NUMBER
  refine okH (k := 2) A sc_check_salt (fun ds S Q E h => by unfold sp_check_salt  at h; (repeat' split at h) <;> first | rfl | exact h.elim) fun f cdv A outer s H E hr => ⟨r_check_salt C, ?_, pure_check_salt C⟩
  exact (dss_one (ds_if (dt_not (dt_truth (de_has (takes_of rfl rfl rfl rfl) D_is_within (hr.mono (by decide)) (by rfl) (da_cons (de_var 0) (da_cons de_int (da_cons (de_globI (by rfl) c_MOST_NUMBER) da_nil))))))
 (dss_one (ds_raise1 rfl (takes_of rfl rfl rfl rfl) X_BadSalt (hr.mono (by decide)) (by rfl) (da_cons (de_var 0) da_nil)))
 dss_nil))
/-! ### check_label -/
abbrev s_check_label : Stmt := topS 24
abbrev N_check_label : List Str := ["label"]
theorem sc_check_label : FnScope N_check_label ["label"] (defScope s_check_label) := ⟨rfl, rfl, rfl, by decide +kernel, rfl, by decide +kernel, by decide +kernel⟩
def sp_check_label (C : Str → Addr) : DSp := fun ds S Q E => match ds with
  | [d] => (tyN d).isSome = true ∧ shortD d ∧ (isTagD d = true → Q .non S) ∧ (isTagD d = false → errV E (C "BadLabel") S d)
  | _ => False

def r_check_label (C : Str → Addr) : DTS := (dIfS (dNot (dTru (dFn (sp_is_tag C) (dCons (dVar 0) dNil))))
 (dRaise1 (C "BadLabel") "value" (dCons (dVar 0) dNil))
 dNext)
theorem pure_check_label (C : Str → Addr) : ∀ ds S Q E, sp_check_label C ds S Q E → r_check_label C (dends Q E) (dstart N_check_label ds) S := by
  intro ds S Q E h
  unfold sp_check_label at h
  split at h
  · rename_i d
    obtain ⟨h1, h2, h3, h4⟩ := h
    refine ⟨h1, h2, ?_⟩
    show if (!isTagD d) = true then _ else _
    cases e : isTagD d
    · exact h4 e
    · exact h3 e
  · exact h.elim

theorem has_check_label {P : Program} {w : World} {K : PySem.W.Frag} {mg : Str → Option Value} {base : Heap} (C : Str → Addr) (A : At K mg "check_label" s_check_label ["label"]) (D_is_tag : Has P w K mg base 3 "is_tag" ["thing"] (sp_is_tag C)) (X_BadLabel : ErrC K mg P w base "BadLabel" (C "BadLabel") "value" [] []) : Has P w K mg base 4 "check_label" ["label"] (sp_check_label C) := by
  refine okH (k := 3) A sc_check_label (fun ds S Q E h => by unfold sp_check_label  at h; (repeat' split at h) <;> first | rfl | exact h.elim) fun f cdv A outer s H E hr => ⟨r_check_label C, ?_, pure_check_label C⟩
  exact (dss_one (ds_if (dt_not (dt_truth (de_has (takes_of rfl rfl rfl rfl) D_is_tag (hr.mono (by decide)) (by rfl) (da_cons (de_var 0) da_nil))))
 (dss_one (ds_raise1 rfl (takes_of rfl rfl rfl rfl) X_BadLabel (hr.mono (by decide)) (by rfl) (da_cons (de_var 0) da_nil)))
 dss_nil))
/-! ### number_of -/
abbrev s_number_of : Stmt := topS 25
abbrev N_number_of : List Str := ["phrase", "salt", "index", "sign"]
theorem sc_number_of : FnScope N_number_of ["phrase", "salt"] (defScope s_number_of) := ⟨rfl, rfl, rfl, by decide +kernel, rfl, by decide +kernel, by decide +kernel⟩
/-- the signs' numbers, each by its place, from place k on -/
def numL : Nat → List Nat → List Int
  | _, [] => []
  | k, c :: r => ((k : Int) + 1) * (c : Int) :: numL (k + 1) r
def numS (cs : List Nat) : Int := (numL 0 cs).sum
def sp_number_of (C : Str → Addr) : DSp := fun ds S Q E => match ds with
  | [.str z, .int salt] => z.length ≤ 1000000 ∧ (∀ c ∈ z.cps.toList, c < 2 ^ 32) ∧ Q (.int ((salt + numS z.cps.toList) % 65536)) S
  | _ => False

def r_number_of (C : Str → Addr) : DTS := (dRet (dOp dMod (dOp dAdd (dVar 1) (dCall dSum (dCons (dLc (dEnum (dCons (dVar 0) dNil)) (dgTup 2 (dgCons (dgName 2) (dgCons (dgName 3) dgNil))) dYes (dOp dMulG (dOp dAdd (dVar 2) (dC (.int 1))) (dCall dOrd (dCons (dVar 3) dNil))) [2, 3]) dNil))) (dC (.int 65536))))
def numF (d : D) : D := match d with
  | .tup [.int i, .str z] => .int ((i + 1) * ((z.cps.getD 0 0 : Nat) : Int))
  | d => d
theorem num_enum : ∀ (cs : List Nat) (k : Nat), (enumFr (cs.map fun c => D.str (T [c])) k).map numF = (numL k cs).map .int
  | [], _ => rfl
  | c :: r, k => by
    simp only [List.map_cons, enumFr, numL, num_enum r (k + 1)]
    rfl
theorem intsOf_map : ∀ ns : List Int, intsOf (ns.map .int) = some ns
  | [] => rfl
  | n :: ns => by
    show (intsOf (ns.map .int)).map (n :: ·) = _
    rw [intsOf_map ns]; rfl
theorem pure_number_of (C : Str → Addr) : ∀ ds S Q E, sp_number_of C ds S Q E → r_number_of C (dends Q E) (dstart N_number_of ds) S := by
  intro ds S Q E h
  unfold sp_number_of at h
  split at h
  · rename_i z salt
    obtain ⟨h1, hb, h2⟩ := h
    have e := T_eq z
    generalize z.cps.toList = cs at e hb h2
    subst e
    rw [T_len] at h1
    have e1 : itemsOf (.str (T cs)) = some (cs.map fun c => .str (T [c])) := by rw [← T_signs]; rfl
    show (match itemsOf (.str (T cs)) with | some xs => dLcGo _ _ _ _ _ (enumD xs) _ _ | none => False)
    rw [e1]
    show dLcGo _ _ _ _ _ (enumD (cs.map fun c => D.str (T [c]))) _ _
    rw [enumD_fr]
    refine lc_map numF _ (fun x hx R hR => ?_) ?_ ?_
    · have key : ∀ (cs : List Nat) (k : Nat), (∀ c ∈ cs, c < 2 ^ 32) → x ∈ enumFr (cs.map fun c => D.str (T [c])) k → ∃ (i : Int) (c : Nat), x = .tup [.int i, .str (T [c])] ∧ c < 2 ^ 32 := by
        intro cs
        induction cs with
        | nil => intro k _ h; simp [enumFr] at h
        | cons c r ih =>
          intro k hb h
          simp only [List.map_cons, enumFr, List.mem_cons] at h
          rcases h with h | h
          · exact ⟨_, _, h, hb c List.mem_cons_self⟩
          · exact ih _ (fun c hc => hb c (List.mem_cons_of_mem _ hc)) h
      obtain ⟨i, c, rfl, hc⟩ := key cs 0 hb hx
      have e0 : ((T [c]).cps.getD 0 0) = c := rfl
      refine ⟨rfl, rfl, rfl, mul_okR _ _ (by rw [e0]; omega) (by rw [e0]; omega), hR⟩
    · have key : ∀ (xs : List D) (k : Nat), (enumFr xs k).length = xs.length := by
        intro xs
        induction xs with
        | nil => intro k; rfl
        | cons x r ih => intro k; simp [enumFr, ih]
      rw [key, List.length_map]; exact size_of h1
    · rw [num_enum]
      exact ⟨_, intsOf_map _, (show (0 : Int) < 65536 by decide), h2⟩
  · exact h.elim

theorem has_number_of {P : Program} {w : World} {K : PySem.W.Frag} {mg : Str → Option Value} {base : Heap} (C : Str → Addr) (A : At K mg "number_of" s_number_of ["phrase", "salt"]) (z_enumerate : mg "enumerate" = none) (z_ord : mg "ord" = none) (z_sum : mg "sum" = none) (c_ALL_NUMBERS : ∃ t, mg "ALL_NUMBERS" = some (.int 65536 t)) : Has P w K mg base 1 "number_of" ["phrase", "salt"] (sp_number_of C) := by
  obtain ⟨t_ALL_NUMBERS, c_ALL_NUMBERS⟩ := c_ALL_NUMBERS
  refine okH (k := 0) A sc_number_of (fun ds S Q E h => by unfold sp_number_of  at h; (repeat' split at h) <;> first | rfl | exact h.elim) fun f cdv A outer s H E hr => ⟨r_number_of C, ?_, pure_number_of C⟩
  exact (dss_one (ds_ret (de_op dop_mod (de_op dop_add (de_var 1) (de_callB (dc_sum rfl) (by rfl) z_sum (by decide +kernel) (da_cons (de_lc rfl sc_number_of.nd (di_enum (by rfl) z_enumerate (da_cons (de_var 0) da_nil)) (blkOk_by (own := [("index", 2), ("sign", 3)]) (N := N_number_of) (sc := defScope s_number_of) (by decide +kernel)) (fun _ _ _ _ _ => (dg_tup rfl (dgs_cons (dg_name (i := 2) sc_number_of.nd rfl (Or.inl rfl)) (dgs_cons (dg_name (i := 3) sc_number_of.nd rfl (Or.inl rfl)) dgs_nil)))) (fun _ _ _ _ _ => dts_nil) (fun _ _ _ _ _ => (de_op dop_mulG (de_op dop_add (de_var 2) de_int) (de_callB dc_ord (by rfl) z_ord (by decide +kernel) (da_cons (de_var 3) da_nil)))) rfl (by decide)) da_nil))) (de_globI (by rfl) c_ALL_NUMBERS))))
/-! ### check_of -/
abbrev s_check_of : Stmt := topS 26
abbrev N_check_of : List Str := ["key"]
theorem sc_check_of : FnScope N_check_of ["key"] (defScope s_check_of) := ⟨rfl, rfl, rfl, by decide +kernel, rfl, by decide +kernel, by decide +kernel⟩
def sp_check_of (C : Str → Addr) : DSp := fun ds S Q E => match ds with
  | [.int k] => Q (.int ((40503 * k + 1) % 65536)) S
  | _ => False

def r_check_of (C : Str → Addr) : DTS := (dRet (dOp dMod (dOp dAdd (dOp dMulG (dC (.int 40503)) (dVar 0)) (dC (.int 1))) (dC (.int 65536))))
theorem pure_check_of (C : Str → Addr) : ∀ ds S Q E, sp_check_of C ds S Q E → r_check_of C (dends Q E) (dstart N_check_of ds) S := by
  intro ds S Q E h
  unfold sp_check_of at h
  split at h
  · exact ⟨mul_ok _ _ (by decide) (by decide), (show (0 : Int) < 65536 by decide), h⟩
  · exact h.elim

theorem has_check_of {P : Program} {w : World} {K : PySem.W.Frag} {mg : Str → Option Value} {base : Heap} (C : Str → Addr) (A : At K mg "check_of" s_check_of ["key"]) (c_ALL_NUMBERS : ∃ t, mg "ALL_NUMBERS" = some (.int 65536 t)) : Has P w K mg base 1 "check_of" ["key"] (sp_check_of C) := by
  obtain ⟨t_ALL_NUMBERS, c_ALL_NUMBERS⟩ := c_ALL_NUMBERS
  refine okH (k := 0) A sc_check_of (fun ds S Q E h => by unfold sp_check_of  at h; (repeat' split at h) <;> first | rfl | exact h.elim) fun f cdv A outer s H E hr => ⟨r_check_of C, ?_, pure_check_of C⟩
  exact (dss_one (ds_ret (de_op dop_mod (de_op dop_add (de_op dop_mulG de_int (de_var 0)) de_int) (de_globI (by rfl) c_ALL_NUMBERS))))
/-! ### is_slot -/
abbrev s_is_slot : Stmt := topS 27
abbrev N_is_slot : List Str := ["thing", "number"]
theorem sc_is_slot : FnScope N_is_slot ["thing"] (defScope s_is_slot) := ⟨rfl, rfl, rfl, by decide +kernel, rfl, by decide +kernel, by decide +kernel⟩
/-- is_slot of what has a slot's form -/
def slotD (d : D) : Prop := ∃ (z : Str) (a b c : Int), d = .tup [.str z, .int a, .int b, .int c] ∧ z.length ≤ 1000000 ∧ isTagD (.str z) = true ∧ (0 ≤ a ∧ a ≤ 65535) ∧ (0 ≤ b ∧ b ≤ 65535) ∧ (0 ≤ c ∧ c ≤ 65535)
def sp_is_slot (C : Str → Addr) : DSp := fun ds S Q E => match ds with
  | [d] => slotD d ∧ Q (.bl true) S
  | _ => False

def r_is_slot (C : Str → Addr) : DTS := (dSeq (dIfS (dOr (dNot (dTru (dCall dIsi (dCons (dVar 0) (dCons (dC (.ty "tuple")) dNil))))) (dOr (dTest (dOp dNeG (dCall dLen (dCons (dVar 0) dNil)) (dC (.int 4)))) (dNot (dTru (dFn (sp_is_tag C) (dCons (dOp dIxS (dVar 0) (dC (.int 0))) dNil))))))
 (dRet (dC (.bl false)))
 dNext)
 (dRet (dCall dAll (dCons (dLc (dItems (dSl (dVar 0) (dPart (dC (.int 1))) dNoPart)) (dgName 1) dYes (dFn (sp_is_within C) (dCons (dVar 1) (dCons (dC (.int 0)) (dCons (dC (.int 65535)) dNil)))) [1]) dNil))))
theorem pure_is_slot (C : Str → Addr) : ∀ ds S Q E, sp_is_slot C ds S Q E → r_is_slot C (dends Q E) (dstart N_is_slot ds) S := by
  intro ds S Q E h
  unfold sp_is_slot at h
  split at h
  · obtain ⟨⟨z, a, b, c, rfl, hz, ht, ha, hb, hc⟩, hq⟩ := h
    refine ⟨_, rfl, rfl, hz, ?_⟩
    show if (!isTagD (.str z)) = true then _ else _
    rw [ht, if_neg (by decide)]
    refine ⟨rfl, size_lt (by simp), rfl, size_lt (by simp), rfl, size_lt (by simp), [true, true, true], ?_, hq⟩
    show blsOf [.bl (withinD (.int a) 0 65535), .bl (withinD (.int b) 0 65535), .bl (withinD (.int c) 0 65535)] = _
    have wi : ∀ {x : Int}, 0 ≤ x ∧ x ≤ 65535 → withinD (.int x) 0 65535 = true := fun h => by simp [withinD, h.1, h.2]
    rw [wi ha, wi hb, wi hc]
    rfl
  · exact h.elim

theorem has_is_slot {P : Program} {w : World} {K : PySem.W.Frag} {mg : Str → Option Value} {base : Heap} (C : Str → Addr) (A : At K mg "is_slot" s_is_slot ["thing"]) (D_is_tag : Has P w K mg base 3 "is_tag" ["thing"] (sp_is_tag C)) (D_is_within : Has P w K mg base 2 "is_within" ["thing", "least", "most"] (sp_is_within C)) (z_all : mg "all" = none) (z_isinstance : mg "isinstance" = none) (z_len : mg "len" = none) (z_tuple : mg "tuple" = none) (c_MOST_NUMBER : ∃ t, mg "MOST_NUMBER" = some (.int 65535 t)) : Has P w K mg base 4 "is_slot" ["thing"] (sp_is_slot C) := by
  obtain ⟨t_MOST_NUMBER, c_MOST_NUMBER⟩ := c_MOST_NUMBER
  refine okH (k := 3) A sc_is_slot (fun ds S Q E h => by unfold sp_is_slot  at h; (repeat' split at h) <;> first | rfl | exact h.elim) fun f cdv A outer s H E hr => ⟨r_is_slot C, ?_, pure_is_slot C⟩
  exact (dss_cons (ds_if (DW.dt (dw_or (dt_not (dt_truth (de_callB dc_isi (by rfl) z_isinstance (by decide +kernel) (da_cons (de_var 0) (da_cons (de_ty (by rfl) z_tuple boot_tuple) da_nil))))) (dw_or (dt_cmp (dop_neG hr.units) (de_callB dc_len (by rfl) z_len (by decide +kernel) (da_cons (de_var 0) da_nil)) de_int) (dw_or1 (dt_not (dt_truth (de_has (takes_of rfl rfl rfl rfl) D_is_tag (hr.mono (by decide)) (by rfl) (da_cons (de_ix dix_seq (de_var 0) de_int) da_nil))))))))
 (dss_one (ds_ret de_bl))
 dss_nil)
 (dss_one (ds_ret (de_callB (dc_all rfl) (by rfl) z_all (by decide +kernel) (da_cons (de_lc rfl sc_is_slot.nd (di_seq (de_slice (de_var 0) (do_some de_int) do_none)) (blkOk_by (own := [("number", 1)]) (N := N_is_slot) (sc := defScope s_is_slot) (by decide +kernel)) (fun _ _ _ _ _ => (dg_name (i := 1) sc_is_slot.nd rfl (Or.inl rfl))) (fun _ _ _ _ _ => dts_nil) (fun _ _ _ _ _ => (de_has takes0 D_is_within (hr.mono (by decide)) (by rfl) (da_cons (de_var 1) (da_cons de_int (da_cons (de_globI (by rfl) c_MOST_NUMBER) da_nil))))) rfl (by decide)) da_nil)))))
/-! ### opened_key -/
abbrev s_opened_key : Stmt := topS 28
abbrev N_opened_key : List Str := ["slot", "phrase", "key"]
theorem sc_opened_key : FnScope N_opened_key ["slot", "phrase"] (defScope s_opened_key) := ⟨rfl, rfl, rfl, by decide +kernel, rfl, by decide +kernel, by decide +kernel⟩
def keyD (s x y : Int) (cs : List Nat) : D := if (40503 * ((x - (s + numS cs) % 65536) % 65536) + 1) % 65536 = y then .int ((x - (s + numS cs) % 65536) % 65536) else .non
def sp_opened_key (C : Str → Addr) : DSp := fun ds S Q E => match ds with
  | [.tup [_, .int s, .int x, .int y], .str z] => z.length ≤ 1000000 ∧ (∀ c ∈ z.cps.toList, c < 2 ^ 32) ∧ Q (keyD s x y z.cps.toList) S
  | _ => False

def r_opened_key (C : Str → Addr) : DTS := (dSeq (dAsg (dOp dMod (dOp dSub (dOp dIxS (dVar 0) (dC (.int 2))) (dFn (sp_number_of C) (dCons (dVar 1) (dCons (dOp dIxS (dVar 0) (dC (.int 1))) dNil)))) (dC (.int 65536))) (dgName 2))
 (dRet (dIfE (dTest (dOp dEqG (dFn (sp_check_of C) (dCons (dVar 2) dNil)) (dOp dIxS (dVar 0) (dC (.int 3))))) (dVar 2) (dC .non))))
theorem pure_opened_key (C : Str → Addr) : ∀ ds S Q E, sp_opened_key C ds S Q E → r_opened_key C (dends Q E) (dstart N_opened_key ds) S := by
  intro ds S Q E h
  unfold sp_opened_key at h
  split at h
  · rename_i l s x y z
    obtain ⟨h1, h2, h3⟩ := h
    refine ⟨_, rfl, _, rfl, h1, h2, (show (0 : Int) < 65536 by decide), ?_⟩
    refine ⟨_, rfl, ?_⟩
    show if (eqF (.int _) (.int y)) = true then _ else _
    unfold keyD at h3
    split at h3
    · rename_i e
      rw [if_pos (by simp only [eqF, beq_iff_eq]; exact e)]
      exact h3
    · rename_i e
      rw [if_neg (by simp only [eqF, beq_iff_eq]; exact e)]
      exact h3
  · exact h.elim

theorem has_opened_key {P : Program} {w : World} {K : PySem.W.Frag} {mg : Str → Option Value} {base : Heap} (C : Str → Addr) (A : At K mg "opened_key" s_opened_key ["slot", "phrase"]) (D_number_of : Has P w K mg base 1 "number_of" ["phrase", "salt"] (sp_number_of C)) (D_check_of : Has P w K mg base 1 "check_of" ["key"] (sp_check_of C)) (c_ALL_NUMBERS : ∃ t, mg "ALL_NUMBERS" = some (.int 65536 t)) : Has P w K mg base 2 "opened_key" ["slot", "phrase"] (sp_opened_key C) := by
  obtain ⟨t_ALL_NUMBERS, c_ALL_NUMBERS⟩ := c_ALL_NUMBERS
  refine okH (k := 1) A sc_opened_key (fun ds S Q E h => by unfold sp_opened_key  at h; (repeat' split at h) <;> first | rfl | exact h.elim) fun f cdv A outer s H E hr => ⟨r_opened_key C, ?_, pure_opened_key C⟩
  exact (dss_cons (ds_set (i := 2) sc_opened_key.nd rfl (Or.inl rfl) (de_op dop_mod (de_op dop_sub (de_ix dix_seq (de_var 0) de_int) (de_has (takes_of rfl rfl rfl rfl) D_number_of (hr.mono (by decide)) (by rfl) (da_cons (de_var 1) (da_cons (de_ix dix_seq (de_var 0) de_int) da_nil)))) (de_globI (by rfl) c_ALL_NUMBERS)))
 (dss_one (ds_ret (de_ifE (dt_cmp (dop_eqG hr.units) (de_has (takes_of rfl rfl rfl rfl) D_check_of (hr.mono (by decide)) (by rfl) (da_cons (de_var 2) da_nil)) (de_ix dix_seq (de_var 0) de_int)) (de_var 2) de_non))))
/-! ### phrase_number -/
abbrev s_phrase_number : Stmt := topS 29
abbrev N_phrase_number : List Str := ["phrase", "salt"]
theorem sc_phrase_number : FnScope N_phrase_number ["phrase", "salt"] (defScope s_phrase_number) := ⟨rfl, rfl, rfl, by decide +kernel, rfl, by decide +kernel, by decide +kernel⟩
def okPhr (cs : List Nat) : Prop := okSigns cs = true ∧ 1 ≤ cs.length ∧ cs.length ≤ 40 ∧ ∀ c ∈ cs, c < 2 ^ 32
def sp_phrase_number (C : Str → Addr) : DSp := fun ds S Q E => match ds with
  | [.str z, .int s] => okPhr z.cps.toList ∧ (0 ≤ s ∧ s ≤ 65535) ∧ Q (.int ((s + numS z.cps.toList) % 65536)) S
  | _ => False

def r_phrase_number (C : Str → Addr) : DTS := (dSeq (dDrop (dFn (sp_check_phrase C) (dCons (dVar 0) dNil)))
 (dSeq (dDrop (dFn (sp_check_salt C) (dCons (dVar 1) dNil)))
 (dRet (dFn (sp_number_of C) (dCons (dVar 0) (dCons (dVar 1) dNil))))))
theorem phr_D {z : Str} (h : okPhr z.cps.toList) : isPhraseD (.str z) = true ∧ z.length ≤ 1000000 := by
  obtain ⟨h1, h2, h3, h4⟩ := h
  have e : z.cps.toList.length = z.length := by simp [Str.length]
  rw [e] at h2 h3
  exact ⟨by simp [isPhraseD, h1, h2, h3], by omega⟩
theorem within_D {x lo hi : Int} (h : lo ≤ x ∧ x ≤ hi) : withinD (.int x) lo hi = true := by simp [withinD, h.1, h.2]
theorem check_phrase_ok {C : Str → Addr} {z : Str} {S : Sto} {Q : DK} {E : DEr} (h : okPhr z.cps.toList) (hq : Q .non S) : sp_check_phrase C [.str z] S Q E := by
  unfold sp_check_phrase
  exact ⟨rfl, (phr_D h).2, fun _ => hq, fun e => by rw [(phr_D h).1] at e; cases e⟩
theorem check_salt_ok {C : Str → Addr} {x : Int} {S : Sto} {Q : DK} {E : DEr} (h : 0 ≤ x ∧ x ≤ 65535) (hq : Q .non S) : sp_check_salt C [.int x] S Q E := by
  unfold sp_check_salt
  exact ⟨rfl, fun _ => hq, fun e => by rw [within_D h] at e; cases e⟩
theorem pure_phrase_number (C : Str → Addr) : ∀ ds S Q E, sp_phrase_number C ds S Q E → r_phrase_number C (dends Q E) (dstart N_phrase_number ds) S := by
  intro ds S Q E h
  unfold sp_phrase_number at h
  split at h
  · obtain ⟨h1, h2, h3⟩ := h
    refine check_phrase_ok h1 ?_
    refine check_salt_ok h2 ?_
    exact ⟨(phr_D h1).2, h1.2.2.2, h3⟩
  · exact h.elim

theorem has_phrase_number {P : Program} {w : World} {K : PySem.W.Frag} {mg : Str → Option Value} {base : Heap} (C : Str → Addr) (A : At K mg "phrase_number" s_phrase_number ["phrase", "salt"]) (D_check_phrase : Has P w K mg base 3 "check_phrase" ["phrase"] (sp_check_phrase C)) (D_check_salt : Has P w K mg base 3 "check_salt" ["salt"] (sp_check_salt C)) (D_number_of : Has P w K mg base 1 "number_of" ["phrase", "salt"] (sp_number_of C)) : Has P w K mg base 4 "phrase_number" ["phrase", "salt"] (sp_phrase_number C) := by
  refine okH (k := 3) A sc_phrase_number (fun ds S Q E h => by unfold sp_phrase_number  at h; (repeat' split at h) <;> first | rfl | exact h.elim) fun f cdv A outer s H E hr => ⟨r_phrase_number C, ?_, pure_phrase_number C⟩
  exact (dss_cons (ds_expr (de_has (takes_of rfl rfl rfl rfl) D_check_phrase (hr.mono (by decide)) (by rfl) (da_cons (de_var 0) da_nil)))
 (dss_cons (ds_expr (de_has (takes_of rfl rfl rfl rfl) D_check_salt (hr.mono (by decide)) (by rfl) (da_cons (de_var 1) da_nil)))
 (dss_one (ds_ret (de_has (takes_of rfl rfl rfl rfl) D_number_of (hr.mono (by decide)) (by rfl) (da_cons (de_var 0) (da_cons (de_var 1) da_nil)))))))
/-! ### slot_of -/
abbrev s_slot_of : Stmt := topS 30
abbrev N_slot_of : List Str := ["key", "label", "phrase", "salt"]
theorem sc_slot_of : FnScope N_slot_of ["key", "label", "phrase", "salt"] (defScope s_slot_of) := ⟨rfl, rfl, rfl, by decide +kernel, rfl, by decide +kernel, by decide +kernel⟩
def slotT (k s : Int) (l : Str) (cs : List Nat) : D := .tup [.str l, .int s, .int ((k + (s + numS cs) % 65536) % 65536), .int ((40503 * k + 1) % 65536)]
def sp_slot_of (C : Str → Addr) : DSp := fun ds S Q E => match ds with
  | [.int k, .str l, .str z, .int s] => (0 ≤ k ∧ k ≤ 65535) ∧ isTagD (.str l) = true ∧ l.length ≤ 1000000 ∧ okPhr z.cps.toList ∧ (0 ≤ s ∧ s ≤ 65535) ∧ Q (slotT k s l z.cps.toList) S
  | _ => False

def r_slot_of (C : Str → Addr) : DTS := (dSeq (dDrop (dFn (sp_check_key C) (dCons (dVar 0) dNil)))
 (dSeq (dDrop (dFn (sp_check_label C) (dCons (dVar 1) dNil)))
 (dSeq (dDrop (dFn (sp_check_phrase C) (dCons (dVar 2) dNil)))
 (dSeq (dDrop (dFn (sp_check_salt C) (dCons (dVar 3) dNil)))
 (dRet (dTup (dCons (dVar 1) (dCons (dVar 3) (dCons (dOp dMod (dOp dAdd (dVar 0) (dFn (sp_number_of C) (dCons (dVar 2) (dCons (dVar 3) dNil)))) (dC (.int 65536))) (dCons (dFn (sp_check_of C) (dCons (dVar 0) dNil)) dNil))))))))))
theorem pure_slot_of (C : Str → Addr) : ∀ ds S Q E, sp_slot_of C ds S Q E → r_slot_of C (dends Q E) (dstart N_slot_of ds) S := by
  intro ds S Q E h
  unfold sp_slot_of at h
  split at h
  · obtain ⟨h1, h2, h3, h4, h5, h6⟩ := h
    refine ⟨rfl, fun _ => ⟨rfl, h3, fun _ => ?_, fun e => by rw [h2] at e; cases e⟩, fun e => by rw [within_D h1] at e; cases e⟩
    refine check_phrase_ok h4 ?_
    refine check_salt_ok h5 ?_
    exact ⟨(phr_D h4).2, h4.2.2.2, (show (0 : Int) < 65536 by decide), size_of (by simp), h6⟩
  · exact h.elim

theorem has_slot_of {P : Program} {w : World} {K : PySem.W.Frag} {mg : Str → Option Value} {base : Heap} (C : Str → Addr) (A : At K mg "slot_of" s_slot_of ["key", "label", "phrase", "salt"]) (D_check_key : Has P w K mg base 3 "check_key" ["key"] (sp_check_key C)) (D_check_label : Has P w K mg base 4 "check_label" ["label"] (sp_check_label C)) (D_check_phrase : Has P w K mg base 3 "check_phrase" ["phrase"] (sp_check_phrase C)) (D_check_salt : Has P w K mg base 3 "check_salt" ["salt"] (sp_check_salt C)) (D_check_of : Has P w K mg base 1 "check_of" ["key"] (sp_check_of C)) (D_number_of : Has P w K mg base 1 "number_of" ["phrase", "salt"] (sp_number_of C)) (c_ALL_NUMBERS : ∃ t, mg "ALL_NUMBERS" = some (.int 65536 t)) : Has P w K mg base 5 "slot_of" ["key", "label", "phrase", "salt"] (sp_slot_of C) := by
  obtain ⟨t_ALL_NUMBERS, c_ALL_NUMBERS⟩ := c_ALL_NUMBERS
  refine okH (k := 4) A sc_slot_of (fun ds S Q E h => by unfold sp_slot_of  at h; (repeat' split at h) <;> first | rfl | exact h.elim) fun f cdv A outer s H E hr => ⟨r_slot_of C, ?_, pure_slot_of C⟩
  exact (dss_cons (ds_expr (de_has (takes_of rfl rfl rfl rfl) D_check_key (hr.mono (by decide)) (by rfl) (da_cons (de_var 0) da_nil)))
 (dss_cons (ds_expr (de_has (takes_of rfl rfl rfl rfl) D_check_label (hr.mono (by decide)) (by rfl) (da_cons (de_var 1) da_nil)))
 (dss_cons (ds_expr (de_has (takes_of rfl rfl rfl rfl) D_check_phrase (hr.mono (by decide)) (by rfl) (da_cons (de_var 2) da_nil)))
 (dss_cons (ds_expr (de_has (takes_of rfl rfl rfl rfl) D_check_salt (hr.mono (by decide)) (by rfl) (da_cons (de_var 3) da_nil)))
 (dss_one (ds_ret (de_tup (da_cons (de_var 1) (da_cons (de_var 3) (da_cons (de_op dop_mod (de_op dop_add (de_var 0) (de_has (takes_of rfl rfl rfl rfl) D_number_of (hr.mono (by decide)) (by rfl) (da_cons (de_var 2) (da_cons (de_var 3) da_nil)))) (de_globI (by rfl) c_ALL_NUMBERS)) (da_cons (de_has (takes_of rfl rfl rfl rfl) D_check_of (hr.mono (by decide)) (by rfl) (da_cons (de_var 0) da_nil)) da_nil)))))))))))
/-! ### key_of -/
abbrev s_key_of : Stmt := topS 31
abbrev N_key_of : List Str := ["slot", "phrase"]
theorem sc_key_of : FnScope N_key_of ["slot", "phrase"] (defScope s_key_of) := ⟨rfl, rfl, rfl, by decide +kernel, rfl, by decide +kernel, by decide +kernel⟩
def sp_key_of (C : Str → Addr) : DSp := fun ds S Q E => match ds with
  | [.tup [l, .int s, .int x, .int y], .str z] => slotD (.tup [l, .int s, .int x, .int y]) ∧ okPhr z.cps.toList ∧ Q (keyD s x y z.cps.toList) S
  | _ => False

def r_key_of (C : Str → Addr) : DTS := (dSeq (dIfS (dNot (dTru (dFn (sp_is_slot C) (dCons (dVar 0) dNil))))
 (dRaise1 (C "BadSlot") "value" (dCons (dVar 0) dNil))
 dNext)
 (dSeq (dDrop (dFn (sp_check_phrase C) (dCons (dVar 1) dNil)))
 (dRet (dFn (sp_opened_key C) (dCons (dVar 0) (dCons (dVar 1) dNil))))))
theorem pure_key_of (C : Str → Addr) : ∀ ds S Q E, sp_key_of C ds S Q E → r_key_of C (dends Q E) (dstart N_key_of ds) S := by
  intro ds S Q E h
  unfold sp_key_of at h
  split at h
  · obtain ⟨h1, h2, h3⟩ := h
    refine ⟨h1, ?_⟩
    refine check_phrase_ok h2 ?_
    exact ⟨(phr_D h2).2, h2.2.2.2, h3⟩
  · exact h.elim

theorem has_key_of {P : Program} {w : World} {K : PySem.W.Frag} {mg : Str → Option Value} {base : Heap} (C : Str → Addr) (A : At K mg "key_of" s_key_of ["slot", "phrase"]) (D_is_slot : Has P w K mg base 4 "is_slot" ["thing"] (sp_is_slot C)) (D_check_phrase : Has P w K mg base 3 "check_phrase" ["phrase"] (sp_check_phrase C)) (D_opened_key : Has P w K mg base 2 "opened_key" ["slot", "phrase"] (sp_opened_key C)) (X_BadSlot : ErrC K mg P w base "BadSlot" (C "BadSlot") "value" [] []) : Has P w K mg base 5 "key_of" ["slot", "phrase"] (sp_key_of C) := by
  refine okH (k := 4) A sc_key_of (fun ds S Q E h => by unfold sp_key_of  at h; (repeat' split at h) <;> first | rfl | exact h.elim) fun f cdv A outer s H E hr => ⟨r_key_of C, ?_, pure_key_of C⟩
  exact (dss_cons (ds_if (dt_not (dt_truth (de_has (takes_of rfl rfl rfl rfl) D_is_slot (hr.mono (by decide)) (by rfl) (da_cons (de_var 0) da_nil))))
 (dss_one (ds_raise1 rfl (takes_of rfl rfl rfl rfl) X_BadSlot (hr.mono (by decide)) (by rfl) (da_cons (de_var 0) da_nil)))
 dss_nil)
 (dss_cons (ds_expr (de_has (takes_of rfl rfl rfl rfl) D_check_phrase (hr.mono (by decide)) (by rfl) (da_cons (de_var 1) da_nil)))
 (dss_one (ds_ret (de_has (takes_of rfl rfl rfl rfl) D_opened_key (hr.mono (by decide)) (by rfl) (da_cons (de_var 0) (da_cons (de_var 1) da_nil)))))))
/-! ### _law_taken -/
abbrev s__law_taken : Stmt := topS 33
abbrev N__law_taken : List Str := ["row", "many", "found", "cell"]
theorem sc__law_taken : FnScope N__law_taken ["row", "many"] (defScope s__law_taken) := ⟨rfl, rfl, rfl, by decide +kernel, rfl, by decide +kernel, by decide +kernel⟩
/-- the row of a law: the script, how far it is read, the state, what is left of a large number -/
def RowL (xs : List D) : Prop := ∃ (ns : List Int) (i s l : Int), xs = [.scr ns, .int i, .int s, .int l] ∧ 0 ≤ i ∧ 0 ≤ s ∧ s < 2147483647
@[irreducible] def sp__law_taken (C : Str → Addr) : DSp := fun ds S Q E => match ds with
  | [.ref p, .int m] => (∃ xs, S p = some (.lst xs) ∧ RowL xs) ∧ 0 < m ∧ m < 2 ^ 64 ∧ ∀ (r : Int) xs', 0 ≤ r → r < m → RowL xs' → Q (.int r) (put S p (.lst xs'))
  | _ => False

def r__law_taken (C : Str → Addr) : DTS := (dSeq (dIfS (dTest (dOp dGt (dOp dIxM (dVar 0) (dC (.int 3))) (dC (.int 0))))
 (dSeq (dAsg (dOp dMod (dCall dInt1 (dCons (dOp dIxM (dVar 0) (dC (.int 3))) dNil)) (dVar 1)) (dgName 2))
 (dSeq (dSetIx (dVar 0) (dC (.int 3)) (dOp dFdiv (dOp dIxM (dVar 0) (dC (.int 3))) (dVar 1)))
 (dRet (dVar 2))))
 dNext)
 (dSeq (dSetIx (dVar 0) (dC (.int 1)) (dOp dAdd (dOp dIxM (dVar 0) (dC (.int 1))) (dC (.int 1))))
 (dSeq (dIfS (dTest (dOp dGt (dOp dIxM (dVar 0) (dC (.int 1))) (dCall dLen (dCons (dOp dIxM (dVar 0) (dC (.int 0))) dNil))))
 (dSeq (dSetIx (dVar 0) (dC (.int 2)) (dOp dMod (dCall dInt1 (dCons (dOp dAdd (dOp dMulG (dOp dIxM (dVar 0) (dC (.int 2))) (dC (.int 48271))) (dC (.int 11))) dNil)) (dC (.int 2147483647))))
 (dRet (dOp dMod (dCall dInt1 (dCons (dOp dFdiv (dOp dIxM (dVar 0) (dC (.int 2))) (dC (.int 7))) dNil)) (dVar 1))))
 dNext)
 (dSeq (dAsg (dOp dIxS (dOp dIxM (dVar 0) (dC (.int 0))) (dOp dSub (dOp dIxM (dVar 0) (dC (.int 1))) (dC (.int 1)))) (dgName 3))
 (dSeq (dSetIx (dVar 0) (dC (.int 2)) (dOp dMod (dCall dInt1 (dCons (dOp dAdd (dOp dAdd (dOp dMulG (dOp dIxM (dVar 0) (dC (.int 2))) (dC (.int 48271))) (dVar 3)) (dC (.int 11))) dNil)) (dC (.int 2147483647))))
 (dSeq (dIfS (dTest (dOp dGe (dVar 3) (dOp dPow (dC (.int 10)) (dC (.int 18)))))
 (dSetIx (dVar 0) (dC (.int 3)) (dOp dFdiv (dVar 3) (dVar 1)))
 dNext)
 (dRet (dOp dMod (dCall dInt1 (dCons (dVar 3) dNil)) (dVar 1)))))))))
theorem pure__law_taken (C : Str → Addr) : ∀ ds S Q E, sp__law_taken C ds S Q E → r__law_taken C (dends Q E) (dstart N__law_taken ds) S := by
  intro ds S Q E h
  unfold sp__law_taken at h
  split at h
  · rename_i p m
    obtain ⟨⟨xs, hp, ns, i, s, l, rfl, h0, h1, h2⟩, m0, m1, hq⟩ := h
    refine ⟨_, _, _, _, rfl, rfl, hp, by rfl, ?_⟩
    show if (decide (0 < l)) = true then _ else _
    by_cases hl : 0 < l
    · rw [if_pos (decide_eq_true hl)]
      refine ⟨_, _, _, _, rfl, rfl, hp, by rfl, ?_⟩
      refine ⟨m0, ?_⟩
      refine ⟨_, _, _, _, rfl, rfl, hp, by rfl, ?_⟩
      refine ⟨fdivW m0 m1, p, _, 3, 3, rfl, rfl, hp, rfl, ?_⟩
      exact hq _ _ (Int.emod_nonneg _ (by omega)) (Int.emod_lt_of_pos _ m0) ⟨ns, i, s, l / m, rfl, h0, h1, h2⟩
    · rw [if_neg (by simp [hl])]
      refine ⟨_, _, _, _, rfl, rfl, hp, by rfl, ?_⟩
      refine ⟨p, _, 1, 1, rfl, rfl, hp, rfl, ?_⟩
      have g1 : ∀ xs, put S p (.lst xs) p = some (.lst xs) := fun xs => put_same
      refine ⟨_, _, _, _, rfl, rfl, (g1 _), by rfl, ?_⟩
      refine ⟨_, _, _, _, rfl, rfl, (g1 _), by rfl, ?_⟩
      show if (decide ((ns.length : Int) < i + 1)) = true then _ else _
      by_cases hi : (ns.length : Int) < i + 1
      · rw [if_pos (decide_eq_true hi)]
        refine ⟨_, _, _, _, rfl, rfl, (g1 _), by rfl, ?_⟩
        refine ⟨mul_okR _ _ (by decide) (by decide), (show (0:Int) < 2147483647 by decide), p, _, 2, 2, rfl, rfl, g1 _, rfl, ?_⟩
        rw [put_put]
        refine ⟨_, _, _, _, rfl, rfl, (g1 _), by rfl, ?_⟩
        refine ⟨fdivW (by decide) (by decide), m0, ?_⟩
        exact hq _ _ (Int.emod_nonneg _ (by omega)) (Int.emod_lt_of_pos _ m0) ⟨ns, i + 1, _, l, rfl, by omega, Int.emod_nonneg _ (by omega), Int.emod_lt_of_pos _ (by omega)⟩
      · rw [if_neg (by simpa using hi)]
        refine ⟨_, _, _, _, rfl, rfl, (g1 _), by rfl, ?_⟩
        refine ⟨_, _, _, _, rfl, rfl, (g1 _), by rfl, ?_⟩
        have e1 : i + 1 - 1 = i := by omega
        have hj : i.toNat < ns.length := by omega
        have e2 : atI ns (i + 1 - 1) = some ns[i.toNat] := by
          rw [e1]
          unfold atI ixN
          rw [if_pos h0, if_pos (by omega)]
          exact List.getElem?_eq_getElem hj
        refine ⟨_, e2, ?_⟩
        refine ⟨_, _, _, _, rfl, rfl, (g1 _), by rfl, ?_⟩
        refine ⟨mul_okR _ _ (by decide) (by decide), (show (0:Int) < 2147483647 by decide), p, _, 2, 2, rfl, rfl, g1 _, rfl, ?_⟩
        rw [put_put]
        have g2 : RowL [.scr ns, .int (i + 1), .int ((s * 48271 + ns[i.toNat] + 11) % 2147483647), .int l] := ⟨ns, i + 1, _, l, rfl, by omega, Int.emod_nonneg _ (by omega), Int.emod_lt_of_pos _ (by omega)⟩
        refine ⟨(show CPow 10 18 from ⟨by decide, by decide, by decide⟩), ?_⟩
        show if (decide (_ ≤ ns[i.toNat])) = true then _ else _
        by_cases hc : (10 : Int) ^ (18 : Int).toNat ≤ ns[i.toNat]
        · rw [if_pos (decide_eq_true hc)]
          refine ⟨fdivW m0 m1, p, _, 3, 3, rfl, rfl, g1 _, rfl, m0, ?_⟩
          rw [put_put]
          exact hq _ _ (Int.emod_nonneg _ (by omega)) (Int.emod_lt_of_pos _ m0) ⟨ns, i + 1, _, _, rfl, by omega, Int.emod_nonneg _ (by omega), Int.emod_lt_of_pos _ (by omega)⟩
        · rw [if_neg (by simpa using hc)]
          exact ⟨m0, hq _ _ (Int.emod_nonneg _ (by omega)) (Int.emod_lt_of_pos _ m0) g2⟩
  · exact h.elim
theorem taken_ok {C : Str → Addr} {S : Sto} {p : Addr} {m : Int} {Q : DK} {E : DEr} (h : ∃ xs, S p = some (.lst xs) ∧ RowL xs) (h0 : 0 < m) (h1 : m < 2 ^ 64) (hq : ∀ (r : Int) xs', 0 ≤ r → r < m → RowL xs' → Q (.int r) (put S p (.lst xs'))) : sp__law_taken C [.ref p, .int m] S Q E := by
  unfold sp__law_taken
  exact ⟨h, h0, h1, hq⟩

theorem has__law_taken {P : Program} {w : World} {K : PySem.W.Frag} {mg : Str → Option Value} {base : Heap} (C : Str → Addr) (A : At K mg "_law_taken" s__law_taken ["row", "many"]) (z_int : mg "int" = none) (z_len : mg "len" = none) : Has P w K mg base 1 "_law_taken" ["row", "many"] (sp__law_taken C) := by
  refine okH (k := 0) A sc__law_taken (fun ds S Q E h => by unfold sp__law_taken  at h; (repeat' split at h) <;> first | rfl | exact h.elim) fun f cdv A outer s H E hr => ⟨r__law_taken C, ?_, pure__law_taken C⟩
  exact (dss_cons (ds_if (dt_cmp dop_gt (de_ix dix_mut (de_var 0) de_int) de_int)
 (dss_cons (ds_set (i := 2) sc__law_taken.nd rfl (Or.inl rfl) (de_op dop_mod (de_callTy dc_int (by rfl) z_int (by decide +kernel) (da_cons (de_ix dix_mut (de_var 0) de_int) da_nil)) (de_var 1)))
 (dss_cons (ds_setIx (de_var 0) de_int (de_op dop_fdiv (de_ix dix_mut (de_var 0) de_int) (de_var 1)))
 (dss_one (ds_ret (de_var 2)))))
 dss_nil)
 (dss_cons (ds_setIx (de_var 0) de_int (de_op dop_add (de_ix dix_mut (de_var 0) de_int) de_int))
 (dss_cons (ds_if (dt_cmp dop_gt (de_ix dix_mut (de_var 0) de_int) (de_callB dc_len (by rfl) z_len (by decide +kernel) (da_cons (de_ix dix_mut (de_var 0) de_int) da_nil)))
 (dss_cons (ds_setIx (de_var 0) de_int (de_op dop_mod (de_callTy dc_int (by rfl) z_int (by decide +kernel) (da_cons (de_op dop_add (de_op dop_mulG (de_ix dix_mut (de_var 0) de_int) de_int) de_int) da_nil)) de_int))
 (dss_one (ds_ret (de_op dop_mod (de_callTy dc_int (by rfl) z_int (by decide +kernel) (da_cons (de_op dop_fdiv (de_ix dix_mut (de_var 0) de_int) de_int) da_nil)) (de_var 1)))))
 dss_nil)
 (dss_cons (ds_set (i := 3) sc__law_taken.nd rfl (Or.inl rfl) (de_ix dix_seq (de_ix dix_mut (de_var 0) de_int) (de_op dop_sub (de_ix dix_mut (de_var 0) de_int) de_int)))
 (dss_cons (ds_setIx (de_var 0) de_int (de_op dop_mod (de_callTy dc_int (by rfl) z_int (by decide +kernel) (da_cons (de_op dop_add (de_op dop_add (de_op dop_mulG (de_ix dix_mut (de_var 0) de_int) de_int) (de_var 3)) de_int) da_nil)) de_int))
 (dss_cons (ds_if (dt_cmp dop_ge (de_var 3) (de_op dop_pow de_int de_int))
 (dss_one (ds_setIx (de_var 0) de_int (de_op dop_fdiv (de_var 3) (de_var 1))))
 dss_nil)
 (dss_one (ds_ret (de_op dop_mod (de_callTy dc_int (by rfl) z_int (by decide +kernel) (da_cons (de_var 3) da_nil)) (de_var 1))))))))))
/-! ### _law_pick -/
abbrev s__law_pick : Stmt := topS 34
abbrev N__law_pick : List Str := ["row", "some"]
theorem sc__law_pick : FnScope N__law_pick ["row", "some"] (defScope s__law_pick) := ⟨rfl, rfl, rfl, by decide +kernel, rfl, by decide +kernel, by decide +kernel⟩
/-- what a pick is made of -/
def pickOf : D → Option (List D)
  | .lst xs => some xs
  | .tup xs => some xs
  | .str z => some (KD.signs z)
  | _ => none
@[irreducible] def sp__law_pick (C : Str → Addr) : DSp := fun ds S Q E => match ds with
  | [.ref p, d] => (∃ xs, S p = some (.lst xs) ∧ RowL xs) ∧ ∃ xs, pickOf d = some xs ∧ 0 < xs.length ∧ xs.length < 1000000 ∧ ∀ x ∈ xs, ∀ xs', RowL xs' → Q x (put S p (.lst xs'))
  | _ => False

def r__law_pick (C : Str → Addr) : DTS := (dRet (dOp dIxS (dVar 1) (dFn (sp__law_taken C) (dCons (dVar 0) (dCons (dCall dLen (dCons (dVar 1) dNil)) dNil)))))
theorem pure__law_pick (C : Str → Addr) : ∀ ds S Q E, sp__law_pick C ds S Q E → r__law_pick C (dends Q E) (dstart N__law_pick ds) S := by
  intro ds S Q E h
  unfold sp__law_pick at h
  split at h
  · rename_i p d
    obtain ⟨hr, xs, hx, h0, h1, hq⟩ := h
    cases d <;> simp only [pickOf, reduceCtorEq, Option.some.injEq] at hx
    case str z =>
      subst hx
      have el : (KD.signs z).length = z.length := by simp [KD.signs, Str.length]
      rw [el] at h0 h1
      refine ⟨size_of (by omega), taken_ok hr (by omega) (by omega) fun r xs' r0 r1 hx' => ⟨size_of (by omega), _, atI_nat (xs := z.cps.toList) r0 (by simpa [Str.length] using r1), hq _ ?_ xs' hx'⟩⟩
      exact List.mem_map.mpr ⟨_, List.getElem_mem _, rfl⟩
    all_goals
      subst hx
      exact taken_ok hr (by omega) (by omega) fun r xs' r0 r1 hx' => ⟨_, atI_nat r0 r1, hq _ (List.getElem_mem _) xs' hx'⟩
  · exact h.elim
/-- the store T with a row of a law at p -/
def RowAt (T : Sto) (p : Addr) (S : Sto) : Prop := ∃ xs, RowL xs ∧ S = put T p (.lst xs)
theorem RowAt.at {T S : Sto} {p : Addr} (h : RowAt T p S) : ∃ xs, S p = some (.lst xs) ∧ RowL xs := by
  obtain ⟨xs, h1, rfl⟩ := h
  exact ⟨xs, put_same, h1⟩
theorem RowAt.step {T S : Sto} {p : Addr} {xs : List D} (h : RowAt T p S) (hx : RowL xs) : RowAt T p (put S p (.lst xs)) := by
  obtain ⟨ys, h1, rfl⟩ := h
  exact ⟨xs, hx, put_put⟩
theorem RowAt.self {S : Sto} {p : Addr} (h : ∃ xs, S p = some (.lst xs) ∧ RowL xs) : RowAt S p S := by
  obtain ⟨xs, h1, h2⟩ := h
  exact ⟨xs, h2, (put_eq h1).symm⟩
theorem RowAt.trans {T S S2 : Sto} {p : Addr} (h : RowAt T p S) (h2 : RowAt S p S2) : RowAt T p S2 := by
  obtain ⟨xs, h1, rfl⟩ := h
  obtain ⟨ys, h3, rfl⟩ := h2
  exact ⟨ys, h3, put_put⟩
theorem RowAt.new {T S : Sto} {p q : Addr} (h : RowAt T p S) (hq : S q = none) (m : DM) : q ≠ p ∧ T q = none ∧ RowAt (put T q m) p (put S q m) := by
  obtain ⟨xs, h1, rfl⟩ := h
  have hne : q ≠ p := fun e => by subst e; rw [put_same] at hq; cases hq
  rw [put_ne hne] at hq
  exact ⟨hne, hq, xs, h1, put_comm hne.symm⟩
theorem RowAt.get {T S : Sto} {p q : Addr} {m : DM} (h : RowAt (put T q m) p S) (hne : q ≠ p) : S q = some m := by
  obtain ⟨xs, h1, rfl⟩ := h
  rw [put_ne hne, put_same]
theorem RowAt.upd {T S : Sto} {p q : Addr} {m : DM} (h : RowAt (put T q m) p S) (hne : q ≠ p) (m' : DM) : RowAt (put T q m') p (put S q m') := by
  obtain ⟨xs, h1, rfl⟩ := h
  exact ⟨xs, h1, by rw [put_comm hne, put_comm hne, put_put]⟩
theorem RowAt.rem {T S : Sto} {p q : Addr} {m : DM} (h : RowAt (put T q m) p S) (hne : q ≠ p) (hT : T q = none) : RowAt T p (rem S q) := by
  obtain ⟨xs, h1, rfl⟩ := h
  refine ⟨xs, h1, ?_⟩
  rw [put_comm hne, rem_put (by rw [put_ne hne]; exact hT)]
theorem taken_T {C : Str → Addr} {T S : Sto} {p : Addr} {m : Int} {Q : DK} {E : DEr} (h : RowAt T p S) (h0 : 0 < m) (h1 : m < 2 ^ 64) (hq : ∀ r S2, 0 ≤ r → r < m → RowAt T p S2 → Q (.int r) S2) : sp__law_taken C [.ref p, .int m] S Q E :=
  taken_ok h.at h0 h1 fun r xs' h2 h3 h4 => hq r _ h2 h3 (h.step h4)
theorem pick_T {C : Str → Addr} {T S : Sto} {p : Addr} {d : D} {Q : DK} {E : DEr} (xs : List D) (hx : pickOf d = some xs) (h : RowAt T p S) (h0 : 0 < xs.length) (h1 : xs.length < 1000000) (hq : ∀ x ∈ xs, ∀ S2, RowAt T p S2 → Q x S2) : sp__law_pick C [.ref p, d] S Q E := by
  unfold sp__law_pick
  exact ⟨h.at, xs, hx, h0, h1, fun x hx xs' h4 => hq x hx _ (h.step h4)⟩
theorem pick_I {C : Str → Addr} {T S : Sto} {p : Addr} {d : D} {Q : DK} {E : DEr} (ns : List Int) (hx : pickOf d = some (ns.map .int)) (h : RowAt T p S) (h0 : 0 < ns.length) (h1 : ns.length < 1000000) (hq : ∀ n ∈ ns, ∀ S2, RowAt T p S2 → Q (.int n) S2) : sp__law_pick C [.ref p, d] S Q E :=
  pick_T _ hx h (by simpa using h0) (by simpa using h1) fun x hx => by obtain ⟨n, hn, rfl⟩ := List.mem_map.mp hx; exact hq n hn
/-- a local that may be drawn anew -/
theorem opt_S {c : Bool} {i : Nat} {r : DTE} {Z : DEnds} {σ : DSt} {S T : Sto} {p : Addr} {α : Type} (f : α → D) (P : α → Prop) (a : α) (hr : RowAt T p S) (ha : P a) (hσ : σ[i]? = some (some (f a)))
    (hA : (∀ x S2, P x → RowAt T p S2 → Z.nx (σ.set i (some (f x))) S2) → r (exOf Z σ) σ S fun d S' => Z.nx (σ.set i (some d)) S') (h : ∀ x S2, P x → RowAt T p S2 → Z.nx (σ.set i (some (f x))) S2) :
    if c = true then dAsg r (dgName i) Z σ S else dNext Z σ S := by
  split
  · exact hA h
  · have := h a S ha hr
    have hi := (List.getElem?_eq_some_iff.mp hσ)
    obtain ⟨hi, e⟩ := hi
    rw [← e, List.set_getElem_self] at this
    exact this
/-- two locals that may be drawn anew -/
theorem opt_P {c : Bool} {i j : Nat} {r : DTA} {Z : DEnds} {σ : DSt} {S T : Sto} {p : Addr} {α : Type} (f g : α → D) (P : α → Prop) (a : α) (hr : RowAt T p S) (ha : P a) (hi : σ[i]? = some (some (f a))) (hj : σ[j]? = some (some (g a)))
    (hA : (∀ x S2, P x → RowAt T p S2 → Z.nx ((σ.set i (some (f x))).set j (some (g x))) S2) → dPar i j r Z σ S) (h : ∀ x S2, P x → RowAt T p S2 → Z.nx ((σ.set i (some (f x))).set j (some (g x))) S2) :
    if c = true then dPar i j r Z σ S else dNext Z σ S := by
  split
  · exact hA h
  · have := h a S ha hr
    obtain ⟨h1, e1⟩ := List.getElem?_eq_some_iff.mp hi
    obtain ⟨h2, e2⟩ := List.getElem?_eq_some_iff.mp hj
    rw [← e1, List.set_getElem_self, ← e2, List.set_getElem_self] at this
    exact this

theorem has__law_pick {P : Program} {w : World} {K : PySem.W.Frag} {mg : Str → Option Value} {base : Heap} (C : Str → Addr) (A : At K mg "_law_pick" s__law_pick ["row", "some"]) (D__law_taken : Has P w K mg base 1 "_law_taken" ["row", "many"] (sp__law_taken C)) (z_len : mg "len" = none) : Has P w K mg base 2 "_law_pick" ["row", "some"] (sp__law_pick C) := by
  refine okH (k := 1) A sc__law_pick (fun ds S Q E h => by unfold sp__law_pick  at h; (repeat' split at h) <;> first | rfl | exact h.elim) fun f cdv A outer s H E hr => ⟨r__law_pick C, ?_, pure__law_pick C⟩
  exact (dss_one (ds_ret (de_ix dix_seq (de_var 1) (de_has (takes_of rfl rfl rfl rfl) D__law_taken (hr.mono (by decide)) (by rfl) (da_cons (de_var 0) (da_cons (de_callB dc_len (by rfl) z_len (by decide +kernel) (da_cons (de_var 1) da_nil)) da_nil))))))
/-! ### _law_alike -/
abbrev s__law_alike : Stmt := topS 35
abbrev N__law_alike : List Str := ["found", "due", "k", "key"]
theorem sc__law_alike : FnScope N__law_alike ["found", "due"] (defScope s__law_alike) := ⟨rfl, rfl, rfl, by decide +kernel, rfl, by decide +kernel, by decide +kernel⟩
/-- data that _law_alike walks in n levels -/
def alikeOk : Nat → D → Prop
  | 0, d => flatD d = true
  | n + 1, d => flatD d = true ∨ ∃ xs, (d = .lst xs ∨ d = .tup xs) ∧ xs.length ≤ 1000000 ∧ ∀ x ∈ xs, alikeOk n x
def sp_alikeN (n : Nat) : DSp := fun ds S Q _ => match ds with
  | [f, d] => f = d ∧ alikeOk n d ∧ Q (.bl true) S
  | _ => False
@[irreducible] def sp__law_alike (C : Str → Addr) : DSp := sp_alikeN 4

def r__law_alike (C : Str → Addr) (self : DSp) : DTS := (dSeq (dIfS (dTru (dCall dIsi (dCons (dVar 1) (dCons (dTup (dCons (dC (.ty "tuple")) (dCons (dC (.ty "list")) dNil))) dNil))))
 (dSeq (dIfS (dOr (dNot (dTru (dCall dIsi (dCons (dVar 0) (dCons (dTup (dCons (dC (.ty "tuple")) (dCons (dC (.ty "list")) dNil))) dNil))))) (dTest (dOp dNeG (dCall dIsi (dCons (dVar 0) (dCons (dC (.ty "list")) dNil))) (dCall dIsi (dCons (dVar 1) (dCons (dC (.ty "list")) dNil))))))
 (dRet (dC (.bl false)))
 dNext)
 (dSeq (dIfS (dTest (dOp dNeG (dCall dLen (dCons (dVar 0) dNil)) (dCall dLen (dCons (dVar 1) dNil))))
 (dRet (dC (.bl false)))
 dNext)
 (dRet (dOp dEqG (dLc (dRange1 (dCons (dCall dLen (dCons (dVar 1) dNil)) dNil)) (dgName 2) (dNot (dTru (dFn self (dCons (dOp dIxS (dVar 0) (dVar 2)) (dCons (dOp dIxS (dVar 1) (dVar 2)) dNil))))) (dVar 2) [2]) (dLst dNil)))))
 dNext)
 (dSeq (dIfS (dTru (dCall dIsi (dCons (dVar 1) (dCons (dC (.ty "dict")) dNil))))
 (dSeq (dIfS (dOr (dNot (dTru (dCall dIsi (dCons (dVar 0) (dCons (dC (.ty "dict")) dNil))))) (dTest (dOp dNeG (dCall dList1 (dCons (dVar 0) dNil)) (dCall dList1 (dCons (dVar 1) dNil)))))
 (dRet (dC (.bl false)))
 dNext)
 (dRet (dOp dEqG (dLc (dItems (dVar 1)) (dgName 3) (dNot (dTru (dFn self (dCons (dOp dIxS (dVar 0) (dVar 3)) (dCons (dOp dIxS (dVar 1) (dVar 3)) dNil))))) (dVar 3) [3]) (dLst dNil))))
 dNext)
 (dSeq (dIfS (dOr (dTest (dIsN (dVar 1))) (dTru (dCall dIsi (dCons (dVar 1) (dCons (dC (.ty "str")) dNil)))))
 (dRet (dAndV (dOp dEqG (dVar 0) (dVar 1)) (dOp dEqG (dCall dIsi (dCons (dVar 0) (dCons (dC (.ty "str")) dNil))) (dCall dIsi (dCons (dVar 1) (dCons (dC (.ty "str")) dNil))))))
 dNext)
 (dRet (dAndV (dCall dIsi (dCons (dVar 0) (dCons (dC (.ty "int")) dNil))) (dAndV (dOp dEqG (dCall dIsi (dCons (dVar 0) (dCons (dC (.ty "bool")) dNil))) (dCall dIsi (dCons (dVar 1) (dCons (dC (.ty "bool")) dNil)))) (dOp dEqG (dVar 0) (dVar 1))))))))
theorem filter_none {α : Type} (xs : List α) : xs.filter (fun _ => false) = [] := by induction xs <;> simp_all
theorem pure_alike (C : Str → Addr) (self : DSp) (n : Nat) (hself : ∀ d S Q E, (∃ m, n = m + 1 ∧ alikeOk m d) → Q (.bl true) S → self [d, d] S Q E) : ∀ ds S Q E, sp_alikeN n ds S Q E → r__law_alike C self (dends Q E) (dstart N__law_alike ds) S := by
  intro ds S Q E h
  unfold sp_alikeN at h
  split at h
  · rename_i f d
    obtain ⟨rfl, h, hq⟩ := h
    have z2 : ([D.ty "tuple", D.ty "list"] : List D).length ≤ sizeLine := size_of (by decide)
    have flat : ∀ {d : D}, flatD d = true → Q (.bl true) S → r__law_alike C self (dends Q E) (dstart N__law_alike [d, d]) S := by
      intro d hd hq
      have e := eqF_refl hd
      cases d <;> simp only [flatD, reduceCtorEq] at hd
      · exact ⟨z2, hq⟩
      · rename_i b; cases b <;> exact ⟨z2, hq⟩
      · refine ⟨z2, ?_⟩
        show Q (.bl (eqF _ _)) S
        rw [e]; exact hq
      · refine ⟨z2, ?_⟩
        show if eqF _ _ = true then _ else _
        rw [e]; exact hq
    have seq : ∀ {d : D} (xs : List D), (d = .lst xs ∨ d = .tup xs) → xs.length ≤ 1000000 → (∀ x ∈ xs, ∃ m, n = m + 1 ∧ alikeOk m x) → r__law_alike C self (dends Q E) (dstart N__law_alike [d, d]) S := by
      intro d xs hd hl hx
      have e : eqF (.int xs.length) (.int xs.length) = true := eqF_refl rfl
      rcases hd with rfl | rfl
      all_goals
        refine ⟨z2, z2, ?_⟩
        show if (!eqF _ _) = true then _ else _
        rw [e, if_neg (by decide)]
        refine ⟨by omega, by omega, ?_⟩
        refine lc_pure (fun x => x) (fun _ => false) _ [] (fun x hx' R R' _ h2 => ?_) ?_ ?_
        · obtain ⟨i, hi, rfl⟩ := List.mem_map.mp hx'
          have hi : i < xs.length := by simpa using hi
          have ei : atI xs (0 + (i : Nat)) = some xs[i] := by
            rw [Int.zero_add]
            exact atI_nat (by omega) (by omega)
          exact ⟨_, ei, _, ei, hself _ _ _ _ (hx _ (List.getElem_mem _)) (h2 rfl)⟩
        · simp [rangeD]; exact size_of hl
        · rw [filter_none]; exact ⟨size_of (by decide), eqG_nil hq⟩
    cases n with
    | zero => exact flat h hq
    | succ m =>
      rcases h with h | ⟨xs, h1, h2, h3⟩
      · exact flat h hq
      · exact seq xs h1 h2 fun x hx => ⟨m, rfl, h3 x hx⟩
  · exact h.elim
theorem alike_ok {C : Str → Addr} {f d : D} {S : Sto} {Q : DK} {E : DEr} (e : f = d) (h : alikeOk 4 d) (hq : Q (.bl true) S) : sp__law_alike C [f, d] S Q E := by
  unfold sp__law_alike
  exact ⟨e, h, hq⟩

theorem step__law_alike {P : Program} {w : World} {K : PySem.W.Frag} {mg : Str → Option Value} {base : Heap} (C : Str → Addr) (self : DSp) (k : Nat) (hk : 0 ≤ k) (A : At K mg "_law_alike" s__law_alike ["found", "due"]) (D__law_alike : Has P w K mg base k "_law_alike" ["found", "due"] self) (z_bool : mg "bool" = none) (z_dict : mg "dict" = none) (z_int : mg "int" = none) (z_isinstance : mg "isinstance" = none) (z_len : mg "len" = none) (z_list : mg "list" = none) (z_range : mg "range" = none) (z_str : mg "str" = none) (z_tuple : mg "tuple" = none) (sp : DSp) (hl : ∀ ds S Q E, sp ds S Q E → ds.length = 2) (hp : ∀ ds S Q E, sp ds S Q E → r__law_alike C self (dends Q E) (dstart N__law_alike ds) S) : Has P w K mg base (k + 1) "_law_alike" ["found", "due"] sp := by
  refine okH (k := k) A sc__law_alike hl fun f cdv A outer s H E hr => ⟨r__law_alike C self, ?_, hp⟩
  exact (dss_cons (ds_if (dt_truth (de_callB dc_isi (by rfl) z_isinstance (by decide +kernel) (da_cons (de_var 1) (da_cons (de_tup (da_cons (de_ty (by rfl) z_tuple boot_tuple) (da_cons (de_ty (by rfl) z_list boot_list) da_nil))) da_nil))))
 (dss_cons (ds_if (DW.dt (dw_or (dt_not (dt_truth (de_callB dc_isi (by rfl) z_isinstance (by decide +kernel) (da_cons (de_var 0) (da_cons (de_tup (da_cons (de_ty (by rfl) z_tuple boot_tuple) (da_cons (de_ty (by rfl) z_list boot_list) da_nil))) da_nil))))) (dw_or1 (dt_cmp (dop_neG hr.units) (de_callB dc_isi (by rfl) z_isinstance (by decide +kernel) (da_cons (de_var 0) (da_cons (de_ty (by rfl) z_list boot_list) da_nil))) (de_callB dc_isi (by rfl) z_isinstance (by decide +kernel) (da_cons (de_var 1) (da_cons (de_ty (by rfl) z_list boot_list) da_nil)))))))
 (dss_one (ds_ret de_bl))
 dss_nil)
 (dss_cons (ds_if (dt_cmp (dop_neG hr.units) (de_callB dc_len (by rfl) z_len (by decide +kernel) (da_cons (de_var 0) da_nil)) (de_callB dc_len (by rfl) z_len (by decide +kernel) (da_cons (de_var 1) da_nil)))
 (dss_one (ds_ret de_bl))
 dss_nil)
 (dss_one (ds_ret (de_cmp (dop_eqG hr.units) (de_lc rfl sc__law_alike.nd (di_range1 (by rfl) z_range (da_cons (de_callB dc_len (by rfl) z_len (by decide +kernel) (da_cons (de_var 1) da_nil)) da_nil)) (blkOk_by (own := [("k", 2)]) (N := N__law_alike) (sc := defScope s__law_alike) (by decide +kernel)) (fun _ _ _ _ _ => (dg_name (i := 2) sc__law_alike.nd rfl (Or.inl rfl))) (fun _ _ _ _ _ => (dts_one (dt_not (dt_truth (de_has takes0 D__law_alike hr (by rfl) (da_cons (de_ix dix_seq (de_var 0) (de_var 2)) (da_cons (de_ix dix_seq (de_var 1) (de_var 2)) da_nil))))))) (fun _ _ _ _ _ => (de_var 2)) rfl (by decide)) (de_lst da_nil))))))
 dss_nil)
 (dss_cons (ds_if (dt_truth (de_callB dc_isi (by rfl) z_isinstance (by decide +kernel) (da_cons (de_var 1) (da_cons (de_ty (by rfl) z_dict boot_dict) da_nil))))
 (dss_cons (ds_if (DW.dt (dw_or (dt_not (dt_truth (de_callB dc_isi (by rfl) z_isinstance (by decide +kernel) (da_cons (de_var 0) (da_cons (de_ty (by rfl) z_dict boot_dict) da_nil))))) (dw_or1 (dt_cmp (dop_neG hr.units) (de_callTy dc_list (by rfl) z_list (by decide +kernel) (da_cons (de_var 0) da_nil)) (de_callTy dc_list (by rfl) z_list (by decide +kernel) (da_cons (de_var 1) da_nil))))))
 (dss_one (ds_ret de_bl))
 dss_nil)
 (dss_one (ds_ret (de_cmp (dop_eqG hr.units) (de_lc rfl sc__law_alike.nd (di_seq (de_var 1)) (blkOk_by (own := [("key", 3)]) (N := N__law_alike) (sc := defScope s__law_alike) (by decide +kernel)) (fun _ _ _ _ _ => (dg_name (i := 3) sc__law_alike.nd rfl (Or.inl rfl))) (fun _ _ _ _ _ => (dts_one (dt_not (dt_truth (de_has takes0 D__law_alike hr (by rfl) (da_cons (de_ix dix_seq (de_var 0) (de_var 3)) (da_cons (de_ix dix_seq (de_var 1) (de_var 3)) da_nil))))))) (fun _ _ _ _ _ => (de_var 3)) rfl (by decide)) (de_lst da_nil)))))
 dss_nil)
 (dss_cons (ds_if (DW.dt (dw_or (dt_isN (de_var 1)) (dw_or1 (dt_truth (de_callB dc_isi (by rfl) z_isinstance (by decide +kernel) (da_cons (de_var 1) (da_cons (de_ty (by rfl) z_str boot_str) da_nil)))))))
 (dss_one (ds_ret (de_and (de_cmp (dop_eqG hr.units) (de_var 0) (de_var 1)) (de_one (de_cmp (dop_eqG hr.units) (de_callB dc_isi (by rfl) z_isinstance (by decide +kernel) (da_cons (de_var 0) (da_cons (de_ty (by rfl) z_str boot_str) da_nil))) (de_callB dc_isi (by rfl) z_isinstance (by decide +kernel) (da_cons (de_var 1) (da_cons (de_ty (by rfl) z_str boot_str) da_nil))))))))
 dss_nil)
 (dss_one (ds_ret (de_and (de_callB dc_isi (by rfl) z_isinstance (by decide +kernel) (da_cons (de_var 0) (da_cons (de_ty (by rfl) z_int boot_int) da_nil))) (de_and (de_cmp (dop_eqG hr.units) (de_callB dc_isi (by rfl) z_isinstance (by decide +kernel) (da_cons (de_var 0) (da_cons (de_ty (by rfl) z_bool boot_bool) da_nil))) (de_callB dc_isi (by rfl) z_isinstance (by decide +kernel) (da_cons (de_var 1) (da_cons (de_ty (by rfl) z_bool boot_bool) da_nil)))) (de_one (de_cmp (dop_eqG hr.units) (de_var 0) (de_var 1))))))))))

theorem has__law_alike {P : Program} {w : World} {K : PySem.W.Frag} {mg : Str → Option Value} {base : Heap} (C : Str → Addr) (A : At K mg "_law_alike" s__law_alike ["found", "due"]) (z_bool : mg "bool" = none) (z_dict : mg "dict" = none) (z_int : mg "int" = none) (z_isinstance : mg "isinstance" = none) (z_len : mg "len" = none) (z_list : mg "list" = none) (z_range : mg "range" = none) (z_str : mg "str" = none) (z_tuple : mg "tuple" = none) : Has P w K mg base 6 "_law_alike" ["found", "due"] (sp__law_alike C) := by
  have h0 : Has P w K mg base 1 "_law_alike" ["found", "due"] (fun _ _ _ _ => False) := okH (k := 0) A sc__law_alike (fun _ _ _ _ h => h.elim) fun f cdv A outer s H E hr => ⟨dNever, dss_never, fun _ _ _ _ h => h.elim⟩
  have hl : ∀ n ds S Q E, sp_alikeN n ds S Q E → ds.length = 2 := fun n ds S Q E h => by unfold sp_alikeN at h; split at h <;> first | rfl | exact h.elim
  have key : ∀ n, Has P w K mg base (n + 2) "_law_alike" ["found", "due"] (sp_alikeN n) := by
    intro n
    induction n with
    | zero => exact step__law_alike C _ 1 (by decide) A h0 z_bool z_dict z_int z_isinstance z_len z_list z_range z_str z_tuple (sp_alikeN 0) (hl 0) (pure_alike C _ 0 fun d S Q E ⟨m, e, _⟩ _ => by cases e)
    | succ n ih => exact step__law_alike C _ (n + 2) (by omega) A ih z_bool z_dict z_int z_isinstance z_len z_list z_range z_str z_tuple (sp_alikeN (n + 1)) (hl _) (pure_alike C _ (n + 1) fun d S Q E ⟨m, e, g⟩ q => by cases e; exact ⟨rfl, g, q⟩)
  unfold sp__law_alike
  exact key 4

/-! ### _law_text -/
abbrev s__law_text : Stmt := topS 36
abbrev N__law_text : List Str := ["row", "least", "most", "signs", "many", "kind", "few", "k"]
theorem sc__law_text : FnScope N__law_text ["row", "least", "most"] (defScope s__law_text) := ⟨rfl, rfl, rfl, by decide +kernel, rfl, by decide +kernel, by decide +kernel⟩
/-- the signs that a law draws -/
def lawSigns : List Nat := (" !\"#$&'()*+,-./0123456789:;<=>?@ABCDEFGHIJKLMNOPQRSTUVWXYZ[\\]^`{|}~abcdefghijklmnopqrstuvwxyz_" : Str).cps.toList
def okL (cs : List Nat) : Prop := ∀ c ∈ cs, c ∈ lawSigns
@[irreducible] def sp__law_text (C : Str → Addr) : DSp := fun ds S Q E => match ds with
  | [.ref p, .int lo, .int hi] => (∃ xs, S p = some (.lst xs) ∧ RowL xs) ∧ 0 ≤ lo ∧ lo ≤ hi ∧ hi ≤ 10000 ∧ ∀ (cs : List Nat) S2, okL cs → lo ≤ cs.length → cs.length ≤ hi → RowAt S p S2 → Q (.str (T cs)) S2
  | _ => False

def r__law_text (C : Str → Addr) : DTS := (dSeq (dAsg (dC (.str " !\"#$&'()*+,-./0123456789:;<=>?@ABCDEFGHIJKLMNOPQRSTUVWXYZ[\\]^`{|}~abcdefghijklmnopqrstuvwxyz_")) (dgName 3))
 (dSeq (dAsg (dTup (dCons (dOp dAdd (dVar 1) (dFn (sp__law_taken C) (dCons (dVar 0) (dCons (dOp dAdd (dOp dSub (dVar 2) (dVar 1)) (dC (.int 1))) dNil)))) (dCons (dFn (sp__law_taken C) (dCons (dVar 0) (dCons (dC (.int 3)) dNil))) dNil))) (dgTup 2 (dgCons (dgName 4) (dgCons (dgName 5) dgNil))))
 (dSeq (dIfS (dAnd (dTest (dOp dGt (dVar 5) (dC (.int 0)))) (dTest (dOp dGt (dFn (sp__law_taken C) (dCons (dVar 0) (dCons (dC (.int 4)) dNil))) (dC (.int 0)))))
 (dAsg (dCall dMin2 (dCons (dVar 4) (dCons (dOp dAdd (dVar 1) (dC (.int 3))) dNil))) (dgName 4))
 dNext)
 (dSeq (dAsg (dLc (dRange1 (dCons (dC (.int 2)) dNil)) (dgName 7) dYes (dFn (sp__law_pick C) (dCons (dVar 0) (dCons (dVar 3) dNil))) [7]) (dgName 6))
 (dRet (dBM "str" dJoin (dC (.str "")) (dCons (dLc (dRange1 (dCons (dVar 4) dNil)) (dgName 7) dYes (dIfE (dTest (dOp dEqG (dVar 5) (dC (.int 0)))) (dFn (sp__law_pick C) (dCons (dVar 0) (dCons (dVar 3) dNil))) (dFn (sp__law_pick C) (dCons (dVar 0) (dCons (dVar 6) dNil)))) [7]) dNil)))))))
theorem text_T {C : Str → Addr} {T0 S : Sto} {p : Addr} {lo hi : Int} {Q : DK} {E : DEr} (h : RowAt T0 p S) (h0 : 0 ≤ lo) (h1 : lo ≤ hi) (h2 : hi ≤ 10000) (hq : ∀ (cs : List Nat) S2, okL cs → lo ≤ cs.length → cs.length ≤ hi → RowAt T0 p S2 → Q (.str (T cs)) S2) : sp__law_text C [.ref p, .int lo, .int hi] S Q E := by
  unfold sp__law_text
  exact ⟨h.at, h0, h1, h2, fun cs S2 a b c d => hq cs S2 a b c (h.trans d)⟩
theorem okL_app {a b : List Nat} (h : okL a) (g : okL b) : okL (a ++ b) := fun c hc => (List.mem_append.mp hc).elim (h c) (g c)
theorem pure__law_text (C : Str → Addr) : ∀ ds S Q E, sp__law_text C ds S Q E → r__law_text C (dends Q E) (dstart N__law_text ds) S := by
  intro ds S Q E h
  unfold sp__law_text at h
  split at h
  · rename_i p lo hi
    obtain ⟨hr, h0, h1, h2, hq⟩ := h
    have els : (lawSigns.map fun c => D.str (T [c])).length = 94 := by decide +kernel
    have pk : ∀ {S0 : Sto} {Q0 : DK} {E0 : DEr}, RowAt S p S0 → (∀ c ∈ lawSigns, ∀ S2, RowAt S p S2 → Q0 (.str (T [c])) S2) → sp__law_pick C [.ref p, .str " !\"#$&'()*+,-./0123456789:;<=>?@ABCDEFGHIJKLMNOPQRSTUVWXYZ[\\]^`{|}~abcdefghijklmnopqrstuvwxyz_"] S0 Q0 E0 := fun r hc =>
      pick_T (lawSigns.map fun c => D.str (T [c])) rfl r (by rw [els]; decide) (by rw [els]; decide) fun x hx => by obtain ⟨c, h1, rfl⟩ := List.mem_map.mp hx; exact hc c h1
    refine taken_T (.self hr) (by omega) (by omega) fun m S1 m0 m1 r1 => ?_
    refine taken_T r1 ?_ ?_ ?_; decide; decide
    intro kind S2 k0 k1 r2
    refine ⟨size_of (by simp), rfl, rfl, ?_⟩
    have rest : ∀ (many : Int) S3, lo ≤ many → many ≤ hi → RowAt S p S3 →
        dSeq (dAsg (dLc (dRange1 (dCons (dC (.int 2)) dNil)) (dgName 7) dYes (dFn (sp__law_pick C) (dCons (dVar 0) (dCons (dVar 3) dNil))) [7]) (dgName 6))
          (dRet (dBM "str" dJoin (dC (.str "")) (dCons (dLc (dRange1 (dCons (dVar 4) dNil)) (dgName 7) dYes (dIfE (dTest (dOp dEqG (dVar 5) (dC (.int 0)))) (dFn (sp__law_pick C) (dCons (dVar 0) (dCons (dVar 3) dNil))) (dFn (sp__law_pick C) (dCons (dVar 0) (dCons (dVar 6) dNil)))) [7]) dNil)))
          (dends Q E) [some (.ref p), some (.int lo), some (.int hi), some (.str " !\"#$&'()*+,-./0123456789:;<=>?@ABCDEFGHIJKLMNOPQRSTUVWXYZ[\\]^`{|}~abcdefghijklmnopqrstuvwxyz_"), some (.int many), some (.int kind), none, none] S3 := by
      intro many S3 n0 n1 r3
      refine ⟨by decide, by decide, ?_⟩
      refine lc_draw (fun i acc S' => RowAt S p S' ∧ acc.length = i ∧ ∃ cs, okL cs ∧ acc = cs.map fun c => D.str (T [c])) (fun i x acc S' _ hI R hR => ?_) (size_of (by decide)) ⟨r3, rfl, [], by simp [okL], rfl⟩ fun few S4 hI => ?_
      · obtain ⟨i1, i2, cs, i3, rfl⟩ := hI
        refine pk i1 fun c hc S5 r5 => hR _ _ ⟨r5, by simp [← i2], cs ++ [c], okL_app i3 (by simpa [okL] using hc), by simp⟩
      · obtain ⟨i1, i2, few, i3, rfl⟩ := hI
        have i2 : few.length = 2 := by simpa [rangeD] using i2
        refine ⟨rfl, by omega, by omega, ?_⟩
        refine lc_draw (xs := rangeD 0 many.toNat) (fun i acc S' => RowAt S p S' ∧ acc.length = i ∧ ∃ cs, okL cs ∧ acc = cs.map fun c => D.str (T [c])) (fun i x acc S' _ hI R hR => ?_) ?_ ⟨i1, rfl, [], by simp [okL], rfl⟩ fun acc S6 hI => ?_
        · obtain ⟨j1, j2, cs, j3, rfl⟩ := hI
          have fin : ∀ c ∈ lawSigns, ∀ S2, RowAt S p S2 → R (.str (T [c])) S2 := fun c hc S5 r5 => hR _ _ ⟨r5, by simp [← j2], cs ++ [c], okL_app j3 (by simpa [okL] using hc), by simp⟩
          show if (eqF (.int kind) (.int 0)) = true then _ else _
          split
          · exact pk j1 fin
          · exact pick_T (few.map fun c => D.str (T [c])) rfl j1 (by simp [i2]) (by simp [i2]) fun x hx => by obtain ⟨c, h1, rfl⟩ := List.mem_map.mp hx; exact fin c (i3 c h1)
        · rw [show (rangeD 0 many.toNat).length = many.toNat by simp [rangeD]]
          exact size_of (by omega)
        · obtain ⟨j1, j2, cs, j3, rfl⟩ := hI
          have j2 : cs.length = many.toNat := by simpa [rangeD] using j2
          have e0 : (("" : Str)) = T [] := rfl
          refine ⟨_, _, .inl rfl, strsOf_T cs, ?_, ?_⟩
          · rw [sum_T, e0, T_len]; simp; omega
          · show Q (.str (Txt.join "" (cs.map fun c => T [c]))) S6
            rw [e0, T_join]
            exact hq cs S6 j3 (by omega) (by omega) j1
    by_cases hk : 0 < kind
    · show if (decide (0 < kind)) = true then _ else _
      rw [if_pos (decide_eq_true hk)]
      refine taken_T r2 ?_ ?_ ?_; decide; decide
      intro b S3 b0 b1 r3
      show if (decide (0 < b)) = true then _ else _
      by_cases hb : 0 < b
      · rw [if_pos (decide_eq_true hb)]
        show DEnds.nx _ (List.set _ _ (some (.int (if lo + 3 < lo + m then lo + 3 else lo + m)))) S3
        exact rest _ S3 (by split <;> omega) (by split <;> omega) r3
      · rw [if_neg (by simpa using hb)]
        exact rest (lo + m) S3 (by omega) (by omega) r3
    · show if (decide (0 < kind)) = true then _ else _
      rw [if_neg (by simpa using hk)]
      exact rest (lo + m) S2 (by omega) (by omega) r2
  · exact h.elim

theorem has__law_text {P : Program} {w : World} {K : PySem.W.Frag} {mg : Str → Option Value} {base : Heap} (C : Str → Addr) (A : At K mg "_law_text" s__law_text ["row", "least", "most"]) (D__law_taken : Has P w K mg base 1 "_law_taken" ["row", "many"] (sp__law_taken C)) (D__law_pick : Has P w K mg base 2 "_law_pick" ["row", "some"] (sp__law_pick C)) (z_min : mg "min" = none) (z_range : mg "range" = none) : Has P w K mg base 3 "_law_text" ["row", "least", "most"] (sp__law_text C) := by
  refine okH (k := 2) A sc__law_text (fun ds S Q E h => by unfold sp__law_text  at h; (repeat' split at h) <;> first | rfl | exact h.elim) fun f cdv A outer s H E hr => ⟨r__law_text C, ?_, pure__law_text C⟩
  exact (dss_cons (ds_set (i := 3) sc__law_text.nd rfl (Or.inr rfl) de_str)
 (dss_cons (ds_asg (de_tup (da_cons (de_op dop_add (de_var 1) (de_has (takes_of rfl rfl rfl rfl) D__law_taken (hr.mono (by decide)) (by rfl) (da_cons (de_var 0) (da_cons (de_op dop_add (de_op dop_sub (de_var 2) (de_var 1)) de_int) da_nil)))) (da_cons (de_has (takes_of rfl rfl rfl rfl) D__law_taken (hr.mono (by decide)) (by rfl) (da_cons (de_var 0) (da_cons de_int da_nil))) da_nil))) (dg_tup rfl (dgs_cons (dg_name (i := 4) sc__law_text.nd rfl (Or.inl rfl)) (dgs_cons (dg_name (i := 5) sc__law_text.nd rfl (Or.inr rfl)) dgs_nil))))
 (dss_cons (ds_if (DW.dt (dw_and (dt_cmp dop_gt (de_var 5) de_int) (dw_and1 (dt_cmp dop_gt (de_has (takes_of rfl rfl rfl rfl) D__law_taken (hr.mono (by decide)) (by rfl) (da_cons (de_var 0) (da_cons de_int da_nil))) de_int))))
 (dss_one (ds_set (i := 4) sc__law_text.nd rfl (Or.inl rfl) (de_callB (dc_min2 rfl) (by rfl) z_min (by decide +kernel) (da_cons (de_var 4) (da_cons (de_op dop_add (de_var 1) de_int) da_nil)))))
 dss_nil)
 (dss_cons (ds_set (i := 6) sc__law_text.nd rfl (Or.inr rfl) (de_lc rfl sc__law_text.nd (di_range1 (by rfl) z_range (da_cons de_int da_nil)) (blkOk_by (own := [("k", 7)]) (N := N__law_text) (sc := defScope s__law_text) (by decide +kernel)) (fun _ _ _ _ _ => (dg_name (i := 7) sc__law_text.nd rfl (Or.inl rfl))) (fun _ _ _ _ _ => dts_nil) (fun _ _ _ _ _ => (de_has takes0 D__law_pick (hr.mono (by decide)) (by rfl) (da_cons (de_var 0) (da_cons (de_var 3) da_nil)))) rfl (by decide)))
 (dss_one (ds_ret (de_join de_str (de_lc rfl sc__law_text.nd (di_range1 (by rfl) z_range (da_cons (de_var 4) da_nil)) (blkOk_by (own := [("k", 7)]) (N := N__law_text) (sc := defScope s__law_text) (by decide +kernel)) (fun _ _ _ _ _ => (dg_name (i := 7) sc__law_text.nd rfl (Or.inl rfl))) (fun _ _ _ _ _ => dts_nil) (fun _ _ _ _ _ => (de_ifE (dt_cmp (dop_eqG hr.units) (de_var 5) de_int) (de_has takes0 D__law_pick (hr.mono (by decide)) (by rfl) (da_cons (de_var 0) (da_cons (de_var 3) da_nil))) (de_has takes0 D__law_pick (hr.mono (by decide)) (by rfl) (da_cons (de_var 0) (da_cons (de_var 6) da_nil))))) rfl (by decide)))))))))
/-! ### _law_number -/
abbrev s__law_number : Stmt := topS 37
abbrev N__law_number : List Str := ["phrase", "salt", "total", "k"]
theorem sc__law_number : FnScope N__law_number ["phrase", "salt"] (defScope s__law_number) := ⟨rfl, rfl, rfl, by decide +kernel, rfl, by decide +kernel, by decide +kernel⟩
def sp__law_number (C : Str → Addr) : DSp := fun ds S Q E => match ds with
  | [.str z, .int salt] => z.length ≤ 1000000 ∧ (∀ c ∈ z.cps.toList, c < 2 ^ 32) ∧ Q (.int ((salt + numS z.cps.toList) % 65536)) S
  | _ => False

def r__law_number (C : Str → Addr) : DTS := (dSeq (dAsg (dVar 1) (dgName 2))
 (dSeq (dFor (dRange1 (dCons (dCall dLen (dCons (dVar 0) dNil)) dNil)) (dgName 3)
 (dAsg (dOp dAdd (dVar 2) (dOp dMulG (dOp dAdd (dVar 3) (dC (.int 1))) (dCall dOrd (dCons (dOp dIxS (dVar 0) (dVar 3)) dNil)))) (dgName 2)))
 (dRet (dOp dMod (dCall dInt1 (dCons (dVar 2) dNil)) (dC (.int 65536))))))
theorem numL_app : ∀ (a b : List Nat) (k : Nat), (numL k (a ++ b)).sum = (numL k a).sum + (numL (k + a.length) b).sum
  | [], b, k => by simp [numL]
  | c :: r, b, k => by
    simp only [List.cons_append, numL, List.sum_cons, numL_app r b (k + 1), List.length_cons]
    rw [show k + 1 + r.length = k + (r.length + 1) by omega]
    omega
theorem numS_take {cs : List Nat} {i : Nat} (h : i < cs.length) : numS (cs.take (i + 1)) = numS (cs.take i) + ((i : Int) + 1) * (cs[i] : Int) := by
  unfold numS
  rw [← List.take_append_getElem h, numL_app]
  congr 1
  rw [List.length_take, Nat.min_eq_left (by omega), Nat.zero_add]
  simp [numL]
theorem pure__law_number (C : Str → Addr) : ∀ ds S Q E, sp__law_number C ds S Q E → r__law_number C (dends Q E) (dstart N__law_number ds) S := by
  intro ds S Q E h
  unfold sp__law_number at h
  split at h
  · rename_i z salt
    obtain ⟨h1, hb, h2⟩ := h
    have e := T_eq z
    generalize z.cps.toList = cs at e hb h2
    subst e
    rw [T_len] at h1
    refine ⟨by rw [T_len]; exact size_of h1, by rw [T_len]; omega, by rw [T_len]; omega, ?_⟩
    rw [T_len, Int.toNat_natCast]
    refine loop0 (fun i σ S' => (∃ u, σ = [some (.str (T cs)), some (.int salt), some (.int (salt + numS (cs.take i))), u]) ∧ S' = S) ⟨⟨_, by simp [numS, numL]; rfl⟩, rfl⟩ ?_ fun σ S' hI => ?_
    · rintro i x σ S' hx ⟨⟨u, rfl⟩, rfl⟩ N hN
      have hi : i < cs.length := by
        have := (List.getElem?_eq_some_iff.mp hx).1
        simpa [rangeD] using this
      have hx : x = .int (0 + (i : Nat)) := by
        simp [rangeD, hi] at hx
        rw [← hx]; congr 1; omega
      subst hx
      have ha : atI (T cs).cps.toList (0 + ((i : Nat) : Int)) = some cs[i] := by
        rw [show (T cs).cps.toList = cs from rfl, atI_nat (by omega) (by omega)]
        have e : (0 + ((i : Nat) : Int)).toNat = i := by omega
        simp only [e]
      have hc := hb _ (List.getElem_mem (l := cs) (n := i) hi)
      refine ⟨by rw [T_len]; exact size_of h1, _, ha, rfl, mul_okR _ _ ?_ ?_, ?_⟩
      · show -(2 ^ 64) < ((cs[i] : Nat) : Int); omega
      · show ((cs[i] : Nat) : Int) < 2 ^ 64; omega
      · refine hN _ _ ⟨⟨some (.int (0 + (i : Nat))), ?_⟩, rfl⟩
        rw [numS_take hi, ← Int.add_assoc]
        have e : (0 + ((i : Nat) : Int) + 1) = (i : Int) + 1 := by omega
        rw [← e]
        rfl
    · obtain ⟨⟨u, rfl⟩, rfl⟩ := hI
      refine ⟨(show (0 : Int) < 65536 by decide), ?_⟩
      have el : (rangeD 0 cs.length).length = cs.length := by simp [rangeD]
      rw [el, List.take_length]
      exact h2
  · exact h.elim

theorem has__law_number {P : Program} {w : World} {K : PySem.W.Frag} {mg : Str → Option Value} {base : Heap} (C : Str → Addr) (A : At K mg "_law_number" s__law_number ["phrase", "salt"]) (z_int : mg "int" = none) (z_len : mg "len" = none) (z_ord : mg "ord" = none) (z_range : mg "range" = none) : Has P w K mg base 1 "_law_number" ["phrase", "salt"] (sp__law_number C) := by
  refine okH (k := 0) A sc__law_number (fun ds S Q E h => by unfold sp__law_number  at h; (repeat' split at h) <;> first | rfl | exact h.elim) fun f cdv A outer s H E hr => ⟨r__law_number C, ?_, pure__law_number C⟩
  exact (dss_cons (ds_set (i := 2) sc__law_number.nd rfl (Or.inl rfl) (de_var 1))
 (dss_cons (ds_for (passes_of rfl) rfl (di_range1 (by rfl) z_range (da_cons (de_callB dc_len (by rfl) z_len (by decide +kernel) (da_cons (de_var 0) da_nil)) da_nil)) (dg_name (i := 3) sc__law_number.nd rfl (Or.inl rfl))
 (dss_one (ds_set (i := 2) sc__law_number.nd rfl (Or.inl rfl) (de_op dop_add (de_var 2) (de_op dop_mulG (de_op dop_add (de_var 3) de_int) (de_callB dc_ord (by rfl) z_ord (by decide +kernel) (da_cons (de_ix dix_seq (de_var 0) (de_var 3)) da_nil)))))))
 (dss_one (ds_ret (de_op dop_mod (de_callTy dc_int (by rfl) z_int (by decide +kernel) (da_cons (de_var 2) da_nil)) de_int)))))
/-! ### _law_slot -/
abbrev s__law_slot : Stmt := topS 38
abbrev N__law_slot : List Str := ["key", "label", "phrase", "salt"]
theorem sc__law_slot : FnScope N__law_slot ["key", "label", "phrase", "salt"] (defScope s__law_slot) := ⟨rfl, rfl, rfl, by decide +kernel, rfl, by decide +kernel, by decide +kernel⟩
def sp__law_slot (C : Str → Addr) : DSp := fun ds S Q E => match ds with
  | [.int k, .str l, .str z, .int s] => z.length ≤ 1000000 ∧ (∀ c ∈ z.cps.toList, c < 2 ^ 32) ∧ Q (slotT k s l z.cps.toList) S
  | _ => False

def r__law_slot (C : Str → Addr) : DTS := (dRet (dTup (dCons (dVar 1) (dCons (dVar 3) (dCons (dOp dMod (dCall dInt1 (dCons (dOp dAdd (dVar 0) (dFn (sp__law_number C) (dCons (dVar 2) (dCons (dVar 3) dNil)))) dNil)) (dC (.int 65536))) (dCons (dOp dMod (dCall dInt1 (dCons (dOp dAdd (dOp dMulG (dC (.int 40503)) (dVar 0)) (dC (.int 1))) dNil)) (dC (.int 65536))) dNil))))))
theorem pure__law_slot (C : Str → Addr) : ∀ ds S Q E, sp__law_slot C ds S Q E → r__law_slot C (dends Q E) (dstart N__law_slot ds) S := by
  intro ds S Q E h
  unfold sp__law_slot at h
  split at h
  · obtain ⟨h1, h2, h3⟩ := h
    exact ⟨h1, h2, (show (0 : Int) < 65536 by decide), mul_ok _ _ (by decide) (by decide), (show (0 : Int) < 65536 by decide), size_of (by simp), h3⟩
  · exact h.elim

theorem has__law_slot {P : Program} {w : World} {K : PySem.W.Frag} {mg : Str → Option Value} {base : Heap} (C : Str → Addr) (A : At K mg "_law_slot" s__law_slot ["key", "label", "phrase", "salt"]) (D__law_number : Has P w K mg base 1 "_law_number" ["phrase", "salt"] (sp__law_number C)) (z_int : mg "int" = none) : Has P w K mg base 2 "_law_slot" ["key", "label", "phrase", "salt"] (sp__law_slot C) := by
  refine okH (k := 1) A sc__law_slot (fun ds S Q E h => by unfold sp__law_slot  at h; (repeat' split at h) <;> first | rfl | exact h.elim) fun f cdv A outer s H E hr => ⟨r__law_slot C, ?_, pure__law_slot C⟩
  exact (dss_one (ds_ret (de_tup (da_cons (de_var 1) (da_cons (de_var 3) (da_cons (de_op dop_mod (de_callTy dc_int (by rfl) z_int (by decide +kernel) (da_cons (de_op dop_add (de_var 0) (de_has (takes_of rfl rfl rfl rfl) D__law_number (hr.mono (by decide)) (by rfl) (da_cons (de_var 2) (da_cons (de_var 3) da_nil)))) da_nil)) de_int) (da_cons (de_op dop_mod (de_callTy dc_int (by rfl) z_int (by decide +kernel) (da_cons (de_op dop_add (de_op dop_mulG de_int (de_var 0)) de_int) da_nil)) de_int) da_nil)))))))
/-! ### _law_key -/
abbrev s__law_key : Stmt := topS 39
abbrev N__law_key : List Str := ["slot", "phrase", "key"]
theorem sc__law_key : FnScope N__law_key ["slot", "phrase"] (defScope s__law_key) := ⟨rfl, rfl, rfl, by decide +kernel, rfl, by decide +kernel, by decide +kernel⟩
def sp__law_key (C : Str → Addr) : DSp := fun ds S Q E => match ds with
  | [.tup [_, .int s, .int x, .int y], .str z] => z.length ≤ 1000000 ∧ (∀ c ∈ z.cps.toList, c < 2 ^ 32) ∧ Q (keyD s x y z.cps.toList) S
  | _ => False

def r__law_key (C : Str → Addr) : DTS := (dSeq (dAsg (dOp dMod (dCall dInt1 (dCons (dOp dSub (dOp dIxS (dVar 0) (dC (.int 2))) (dFn (sp__law_number C) (dCons (dVar 1) (dCons (dOp dIxS (dVar 0) (dC (.int 1))) dNil)))) dNil)) (dC (.int 65536))) (dgName 2))
 (dRet (dIfE (dTest (dOp dEqG (dOp dMod (dCall dInt1 (dCons (dOp dAdd (dOp dMulG (dC (.int 40503)) (dVar 2)) (dC (.int 1))) dNil)) (dC (.int 65536))) (dOp dIxS (dVar 0) (dC (.int 3))))) (dVar 2) (dC .non))))
theorem pure__law_key (C : Str → Addr) : ∀ ds S Q E, sp__law_key C ds S Q E → r__law_key C (dends Q E) (dstart N__law_key ds) S := by
  intro ds S Q E h
  unfold sp__law_key at h
  split at h
  · rename_i l s x y z
    obtain ⟨h1, h2, h3⟩ := h
    refine ⟨_, rfl, _, rfl, h1, h2, (show (0 : Int) < 65536 by decide), mul_ok _ _ (by decide) (by decide), (show (0 : Int) < 65536 by decide), ?_⟩
    refine ⟨_, rfl, ?_⟩
    show if (eqF (.int _) (.int y)) = true then _ else _
    unfold keyD at h3
    split at h3
    · rename_i e
      rw [if_pos (by simp only [eqF, beq_iff_eq]; exact e)]
      exact h3
    · rename_i e
      rw [if_neg (by simp only [eqF, beq_iff_eq]; exact e)]
      exact h3
  · exact h.elim

theorem has__law_key {P : Program} {w : World} {K : PySem.W.Frag} {mg : Str → Option Value} {base : Heap} (C : Str → Addr) (A : At K mg "_law_key" s__law_key ["slot", "phrase"]) (D__law_number : Has P w K mg base 1 "_law_number" ["phrase", "salt"] (sp__law_number C)) (z_int : mg "int" = none) : Has P w K mg base 2 "_law_key" ["slot", "phrase"] (sp__law_key C) := by
  refine okH (k := 1) A sc__law_key (fun ds S Q E h => by unfold sp__law_key  at h; (repeat' split at h) <;> first | rfl | exact h.elim) fun f cdv A outer s H E hr => ⟨r__law_key C, ?_, pure__law_key C⟩
  exact (dss_cons (ds_set (i := 2) sc__law_key.nd rfl (Or.inl rfl) (de_op dop_mod (de_callTy dc_int (by rfl) z_int (by decide +kernel) (da_cons (de_op dop_sub (de_ix dix_seq (de_var 0) de_int) (de_has (takes_of rfl rfl rfl rfl) D__law_number (hr.mono (by decide)) (by rfl) (da_cons (de_var 1) (da_cons (de_ix dix_seq (de_var 0) de_int) da_nil)))) da_nil)) de_int))
 (dss_one (ds_ret (de_ifE (dt_cmp (dop_eqG hr.units) (de_op dop_mod (de_callTy dc_int (by rfl) z_int (by decide +kernel) (da_cons (de_op dop_add (de_op dop_mulG de_int (de_var 2)) de_int) da_nil)) de_int) (de_ix dix_seq (de_var 0) de_int)) (de_var 2) de_non))))
/-! ### law -/
abbrev s_law : Stmt := topS 40
abbrev N_law : List Str := ["script", "row", "turn", "key", "salt", "label", "phrase", "strange", "one", "two", "wild", "odd", "slots", "slot", "word"]
theorem sc_law : FnScope N_law ["script"] (defScope s_law) := ⟨rfl, rfl, rfl, by decide +kernel, rfl, by decide +kernel, by decide +kernel⟩
def sp_law (C : Str → Addr) : DSp := spLaw

/-- law from 1.11 on -/
def t_law_1 (C : Str → Addr) : DTS := (dFrzS 12 (dFor (dItems (dVar 12)) (dgName 13)
 (dFor (dItems (dLst (dCons (dVar 6) (dCons (dVar 8) (dCons (dVar 9) (dCons (dVar 7) (dCons (dRevS (dVar 6)) (dCons (dSl (dOp dAdd (dVar 6) (dC (.str "a"))) dNoPart (dPart (dC (.int 40)))) dNil)))))))) (dgName 14)
 (dIfS (dNot (dTru (dFn (sp__law_alike C) (dCons (dFn (sp_key_of C) (dCons (dVar 13) (dCons (dVar 14) dNil))) (dCons (dFn (sp__law_key C) (dCons (dVar 13) (dCons (dVar 14) dNil))) dNil)))))
 (dRet (dC (.bl false)))
 dNext))))
/-- law from 1.8 on -/
def t_law_2 (C : Str → Addr) : DTS := (dSeq (dAsg (dLstM (dCons (dFn (sp__law_slot C) (dCons (dVar 3) (dCons (dVar 5) (dCons (dVar 6) (dCons (dVar 4) dNil))))) (dCons (dFn (sp__law_slot C) (dCons (dVar 3) (dCons (dVar 5) (dCons (dVar 8) (dCons (dVar 4) dNil))))) (dCons (dTup (dCons (dVar 5) (dCons (dVar 4) (dCons (dVar 10) (dCons (dVar 11) dNil))))) dNil)))) (dgName 12))
 (dSeq (dDrop (dBM "list" dAppend (dVar 12) (dCons (dTup (dCons (dVar 5) (dCons (dVar 4) (dCons (dVar 10) (dCons (dOp dMod (dCall dInt1 (dCons (dOp dAdd (dOp dMulG (dC (.int 40503)) (dVar 11)) (dC (.int 1))) dNil)) (dC (.int 65536))) dNil))))) dNil)))
 (dSeq (dDrop (dBM "list" dAppend (dVar 12) (dCons (dTup (dCons (dVar 5) (dCons (dVar 4) (dCons (dOp dMod (dCall dInt1 (dCons (dOp dAdd (dVar 10) (dFn (sp__law_number C) (dCons (dVar 7) (dCons (dVar 4) dNil)))) dNil)) (dC (.int 65536))) (dCons (dOp dMod (dCall dInt1 (dCons (dOp dAdd (dOp dMulG (dC (.int 40503)) (dVar 10)) (dC (.int 1))) dNil)) (dC (.int 65536))) dNil))))) dNil)))
 (t_law_1 C))))
/-- law from 1.5 on -/
def t_law_3 (C : Str → Addr) : DTS := (dSeq (dPar 8 9 (dCons (dOp dAdd (dC (.str "ab")) (dSl (dVar 6) dNoPart (dPart (dC (.int 38))))) (dCons (dOp dAdd (dC (.str "ca")) (dSl (dVar 6) dNoPart (dPart (dC (.int 38))))) dNil)))
 (dSeq (dIfS (dNot (dTru (dFn (sp__law_alike C) (dCons (dFn (sp_phrase_number C) (dCons (dVar 8) (dCons (dVar 4) dNil))) (dCons (dFn (sp__law_number C) (dCons (dVar 9) (dCons (dVar 4) dNil))) dNil)))))
 (dRet (dC (.bl false)))
 dNext)
 (dSeq (dPar 10 11 (dCons (dFn (sp__law_taken C) (dCons (dVar 1) (dCons (dC (.int 65536)) dNil))) (dCons (dFn (sp__law_taken C) (dCons (dVar 1) (dCons (dC (.int 65536)) dNil))) dNil)))
 (t_law_2 C))))
/-- law from 1.3 on -/
def t_law_4 (C : Str → Addr) : DTS := (dSeq (dIfS (dNot (dTru (dFn (sp__law_alike C) (dCons (dFn (sp_phrase_number C) (dCons (dVar 6) (dCons (dVar 4) dNil))) (dCons (dFn (sp__law_number C) (dCons (dVar 6) (dCons (dVar 4) dNil))) dNil)))))
 (dRet (dC (.bl false)))
 dNext)
 (dSeq (dIfS (dNot (dTru (dFn (sp__law_alike C) (dCons (dFn (sp_slot_of C) (dCons (dVar 3) (dCons (dVar 5) (dCons (dVar 6) (dCons (dVar 4) dNil))))) (dCons (dFn (sp__law_slot C) (dCons (dVar 3) (dCons (dVar 5) (dCons (dVar 6) (dCons (dVar 4) dNil))))) dNil)))))
 (dRet (dC (.bl false)))
 dNext)
 (t_law_3 C)))
def r_law (C : Str → Addr) : DTS := (dSeq (dAsg (dLstM (dCons (dVar 0) (dCons (dC (.int 0)) (dCons (dC (.int 4303)) (dCons (dC (.int 0)) dNil))))) (dgName 1))
 (dSeq (dFor (dRange1 (dCons (dC (.int 4)) dNil)) (dgName 2)
 (dSeq (dPar 3 4 (dCons (dFn (sp__law_taken C) (dCons (dVar 1) (dCons (dC (.int 65536)) dNil))) (dCons (dFn (sp__law_taken C) (dCons (dVar 1) (dCons (dC (.int 65536)) dNil))) dNil)))
 (dSeq (dIfS (dTest (dOp dEqG (dFn (sp__law_taken C) (dCons (dVar 1) (dCons (dC (.int 4)) dNil))) (dC (.int 0))))
 (dPar 3 4 (dCons (dFn (sp__law_pick C) (dCons (dVar 1) (dCons (dLst (dCons (dC (.int 0)) (dCons (dC (.int 1)) (dCons (dC (.int 65535)) dNil)))) dNil))) (dCons (dFn (sp__law_pick C) (dCons (dVar 1) (dCons (dLst (dCons (dC (.int 0)) (dCons (dC (.int 1)) (dCons (dC (.int 65535)) dNil)))) dNil))) dNil)))
 dNext)
 (dSeq (dPar3 5 6 7 (dCons (dFn (sp__law_text C) (dCons (dVar 1) (dCons (dC (.int 1)) (dCons (dC (.int 20)) dNil)))) (dCons (dFn (sp__law_text C) (dCons (dVar 1) (dCons (dC (.int 1)) (dCons (dC (.int 40)) dNil)))) (dCons (dFn (sp__law_text C) (dCons (dVar 1) (dCons (dC (.int 1)) (dCons (dC (.int 40)) dNil)))) dNil))))
 (t_law_4 C)))))
 (dRet (dC (.bl true)))))
theorem law_sign : ∀ c ∈ lawSigns, inStr (T [c]) signsS = true ∧ c < 2 ^ 32 := by decide +kernel
theorem okL_phr {cs : List Nat} (h : okL cs) (h1 : 1 ≤ cs.length) (h2 : cs.length ≤ 40) : okPhr cs :=
  ⟨List.all_eq_true.mpr fun c hc => (law_sign c (h c hc)).1, h1, h2, fun c hc => (law_sign c (h c hc)).2⟩
theorem okL_tag {cs : List Nat} (h : okL cs) (h1 : 1 ≤ cs.length) (h2 : cs.length ≤ 20) : isTagD (.str (T cs)) = true := by
  have e : (T cs == ("" : Str)) = false := by
    cases cs with
    | nil => simp at h1
    | cons c r => exact decide_eq_false (fun h => by simp [T] at h; cases h)
  have e2 : okSigns (T cs).cps.toList = true := (okL_phr h h1 (by omega)).1
  simp only [isTagD, e2, T_len, h2, decide_true, e]
  rfl
theorem numS_two (w : List Nat) : numS ([97, 98] ++ w) = numS ([99, 97] ++ w) := by
  simp only [numS, List.cons_append, List.nil_append, numL, List.sum_cons]
  omega
/-- what each of the slots is -/
def slotF (l : List Nat) (s : Int) (d : D) : Prop := ∃ x y : Int, d = .tup [.str (T l), .int s, .int x, .int y] ∧ (0 ≤ x ∧ x ≤ 65535) ∧ (0 ≤ y ∧ y ≤ 65535)
theorem mod_in (x : Int) : 0 ≤ x % 65536 ∧ x % 65536 ≤ 65535 := by omega
theorem keyD_flat (s x y : Int) (cs : List Nat) : flatD (keyD s x y cs) = true := by
  unfold keyD
  split <;> rfl
theorem slotF_alike {l : List Nat} {s : Int} {d : D} (h : slotF l s d) : alikeOk 4 d := by
  obtain ⟨x, y, rfl, _, _⟩ := h
  refine .inr ⟨_, .inr rfl, by simp, fun d hd => .inl ?_⟩
  simp only [List.mem_cons, List.not_mem_nil, or_false] at hd
  rcases hd with rfl | rfl | rfl | rfl <;> rfl
theorem slotF_T (k s : Int) (l cs : List Nat) : slotF l s (slotT k s (T l) cs) := ⟨_, _, rfl, mod_in _, mod_in _⟩
theorem T_short {cs : List Nat} (h : cs.length ≤ 100) : (T cs).length ≤ 1000000 := by rw [T_len]; omega
theorem tail_for (C : Str → Addr) (Z : DEnds) (S : Sto) (a0 a1 a2 a3 a4 a5 a6 a7 a8 a9 a10 a11 a13 a14 : Option D) (q : Addr) (ph one two st l : List Nat) (s : Int) (xs : List D)
    (e6 : a6 = some (.str (T ph))) (e7 : a7 = some (.str (T st))) (e8 : a8 = some (.str (T one))) (e9 : a9 = some (.str (T two)))
    (hph : okL ph ∧ 1 ≤ ph.length ∧ ph.length ≤ 40) (hst : okPhr st) (hone : okPhr one) (htwo : okPhr two) (hl : isTagD (.str (T l)) = true ∧ l.length ≤ 100) (hs : 0 ≤ s ∧ s ≤ 65535) (hx : ∀ d ∈ xs, slotF l s d)
    (hq : S q = some (.lst xs)) (hN : ∀ a13 a14, Z.nx [a0, a1, a2, a3, a4, a5, a6, a7, a8, a9, a10, a11, some (.lst xs), a13, a14] (rem S q)) :
    t_law_1 C Z [a0, a1, a2, a3, a4, a5, a6, a7, a8, a9, a10, a11, some (.ref q), a13, a14] S := by
  subst e6 e7 e8 e9
  refine ⟨q, xs, rfl, hq, ?_⟩
  generalize rem S q = S1 at hN ⊢
  refine loop0 (fun _ σ S => (∃ a13 a14, σ = [a0, a1, a2, a3, a4, a5, some (.str (T ph)), some (.str (T st)), some (.str (T one)), some (.str (T two)), a10, a11, some (.lst xs), a13, a14]) ∧ S = S1) ⟨⟨_, _, rfl⟩, rfl⟩ ?_ fun σ S2 ⟨⟨b13, b14, e⟩, e2⟩ => by subst e e2; exact hN _ _
  rintro i x σ S2 hi ⟨⟨b13, b14, rfl⟩, rfl⟩ N hN2
  obtain ⟨x1, x2, rfl, hx1, hx2⟩ := hx x (List.mem_of_getElem? hi)
  have hphr := okL_phr hph.1 hph.2.1 hph.2.2
  have hrev : okPhr ph.reverse := okL_phr (fun c hc => hph.1 c (List.mem_reverse.mp hc)) (by simpa using hph.2.1) (by simpa using hph.2.2)
  have c97 : 97 ∈ lawSigns := by decide +kernel
  have hcut : okPhr ((ph ++ [97]).take 40) := okL_phr (fun c hc => by
    have := List.mem_of_mem_take hc
    rcases List.mem_append.mp this with h | h
    · exact hph.1 c h
    · rw [List.mem_singleton.mp h]; exact c97) (by simp; omega) (by simp; omega)
  have e1 : revStr (T ph) = T ph.reverse := T_rev ph
  have e2 : cutS (T ph ++ ("a" : Str)) none (some 40) = T ((ph ++ [97]).take 40) := by
    rw [show ("a" : Str) = T [97] from rfl, T_app, T_cut (by decide)]; rfl
  have z1 : (T ph).length ≤ sizeLine := by rw [T_len]; exact size_of (by omega)
  have z2 : (T ph).length + ("a" : Str).length ≤ sizeLine := by
    rw [T_len, show ("a" : Str).length = 1 from rfl]; exact size_of (by omega)
  have z3 : (T ph ++ ("a" : Str)).length ≤ sizeLine := by
    rw [show ("a" : Str) = T [97] from rfl, T_app, T_len]; exact size_of (by simp; omega)
  refine ⟨z1, z2, z3, size_of (by simp), ?_⟩
  rw [e1, e2]
  refine loop0 (xs := [.str (T ph), .str (T one), .str (T two), .str (T st), .str (T ph.reverse), .str (T ((ph ++ [97]).take 40))]) (fun _ σ S => (∃ a14, σ = [a0, a1, a2, a3, a4, a5, some (.str (T ph)), some (.str (T st)), some (.str (T one)), some (.str (T two)), a10, a11, some (.lst xs), some (.tup [.str (T l), .int s, .int x1, .int x2]), a14]) ∧ S = S2) ⟨⟨_, rfl⟩, rfl⟩ ?_ ?_
  rotate_left
  · rintro σ S3 ⟨⟨c14, rfl⟩, rfl⟩
    exact hN2 _ _ ⟨⟨_, _, rfl⟩, rfl⟩
  rintro j y σ S3 hj ⟨⟨c14, rfl⟩, rfl⟩ N3 hN3
  have hy : ∃ cs, y = .str (T cs) ∧ okPhr cs := by
    have := List.mem_of_getElem? hj
    simp only [List.mem_cons, List.not_mem_nil, or_false] at this
    rcases this with rfl | rfl | rfl | rfl | rfl | rfl
    · exact ⟨_, rfl, hphr⟩
    · exact ⟨_, rfl, hone⟩
    · exact ⟨_, rfl, htwo⟩
    · exact ⟨_, rfl, hst⟩
    · exact ⟨_, rfl, hrev⟩
    · exact ⟨_, rfl, hcut⟩
  obtain ⟨cs, rfl, hcs⟩ := hy
  have lc := T_short (cs := cs) (by have := hcs.2.2.1; omega)
  refine ⟨⟨T l, s, x1, x2, rfl, T_short hl.2, hl.1, hs, hx1, hx2⟩, hcs, lc, hcs.2.2.2, ?_⟩
  refine alike_ok rfl (.inl (keyD_flat _ _ _ _)) ?_
  exact hN3 _ _ ⟨⟨_, rfl⟩, rfl⟩
theorem tail_slots (C : Str → Addr) (Z : DEnds) (S : Sto) (p : Addr) (a0 a2 a12 a13 a14 : Option D) (k s w o : Int) (ph one two st l : List Nat)
    (hph : okL ph ∧ 1 ≤ ph.length ∧ ph.length ≤ 40) (hst : okPhr st) (hone : okPhr one) (htwo : okPhr two) (hl : isTagD (.str (T l)) = true ∧ l.length ≤ 100) (hs : 0 ≤ s ∧ s ≤ 65535) (hw : 0 ≤ w ∧ w ≤ 65535) (ho : 0 ≤ o ∧ o ≤ 65535)
    (hr : RowAt (fun _ => none) p S) (hN : ∀ σ S2, (∃ a2 a3 a4 a5 a6 a7 a8 a9 a10 a11 a12 a13 a14, σ = [a0, some (.ref p), a2, a3, a4, a5, a6, a7, a8, a9, a10, a11, a12, a13, a14]) ∧ RowAt (fun _ => none) p S2 → Z.nx σ S2) :
    t_law_2 C Z [a0, some (.ref p), a2, some (.int k), some (.int s), some (.str (T l)), some (.str (T ph)), some (.str (T st)), some (.str (T one)), some (.str (T two)), some (.int w), some (.int o), a12, a13, a14] S := by
  have hphr := okL_phr hph.1 hph.2.1 hph.2.2
  have lph := T_short (cs := ph) (by omega)
  have lone := T_short (cs := one) (by have := hone.2.2.1; omega)
  have lst := T_short (cs := st) (by have := hst.2.2.1; omega)
  refine ⟨lph, hphr.2.2.2, lone, hone.2.2.2, size_of (by simp), size_of (by simp), fun q hq => ?_⟩
  obtain ⟨hne, hT, r10⟩ := hr.new hq (.lst [slotT k s (T l) ph, slotT k s (T l) one, .tup [.str (T l), .int s, .int w, .int o]])
  have ty : ∀ {xs : List D} {S : Sto}, RowAt (put (fun _ => none) q (.lst xs)) p S → isTy "list" (vw S (.ref q)) = true := fun r => by rw [vw_ref (r.get hne)]; rfl
  refine ⟨ty r10, mul_ok _ _ (by decide) (by decide), (show (0 : Int) < 65536 by decide), size_of (by simp), _, r10.get hne, size_lt (by simp), ?_⟩
  have r11 := r10.upd hne (.lst ([slotT k s (T l) ph, slotT k s (T l) one, .tup [.str (T l), .int s, .int w, .int o]] ++ [.tup [.str (T l), .int s, .int w, .int ((40503 * o + 1) % 65536)]]))
  refine ⟨ty r11, lst, hst.2.2.2, (show (0 : Int) < 65536 by decide), mul_ok _ _ (by decide) (by decide), (show (0 : Int) < 65536 by decide), size_of (by simp), _, r11.get hne, size_lt (by simp), ?_⟩
  have r12 := r11.upd hne (.lst ([slotT k s (T l) ph, slotT k s (T l) one, .tup [.str (T l), .int s, .int w, .int o], .tup [.str (T l), .int s, .int w, .int ((40503 * o + 1) % 65536)]] ++ [.tup [.str (T l), .int s, .int ((w + (s + numS st) % 65536) % 65536), .int ((40503 * w + 1) % 65536)]]))
  refine tail_for C Z _ _ _ _ _ _ _ _ _ _ _ _ _ _ _ q ph one two st l s _ rfl rfl rfl rfl hph hst hone htwo hl hs (fun d hd => ?_) (r12.get hne) fun b13 b14 => hN _ _ ⟨⟨_, _, _, _, _, _, _, _, _, _, _, _, _, rfl⟩, r12.rem hne hT⟩
  simp only [List.cons_append, List.nil_append, List.mem_cons, List.not_mem_nil, or_false] at hd
  rcases hd with rfl | rfl | rfl | rfl | rfl
  · exact slotF_T k s l ph
  · exact slotF_T k s l one
  · exact ⟨_, _, rfl, hw, ho⟩
  · exact ⟨_, _, rfl, hw, mod_in _⟩
  · exact ⟨_, _, rfl, mod_in _, mod_in _⟩
theorem tail_one (C : Str → Addr) (Z : DEnds) (S : Sto) (p : Addr) (a0 a2 a8 a9 a10 a11 a12 a13 a14 : Option D) (k s : Int) (ph st l : List Nat)
    (hph : okL ph ∧ 1 ≤ ph.length ∧ ph.length ≤ 40) (hst : okPhr st) (hl : isTagD (.str (T l)) = true ∧ l.length ≤ 100) (hs : 0 ≤ s ∧ s ≤ 65535)
    (hr : RowAt (fun _ => none) p S) (hN : ∀ σ S2, (∃ a2 a3 a4 a5 a6 a7 a8 a9 a10 a11 a12 a13 a14, σ = [a0, some (.ref p), a2, a3, a4, a5, a6, a7, a8, a9, a10, a11, a12, a13, a14]) ∧ RowAt (fun _ => none) p S2 → Z.nx σ S2) :
    t_law_3 C Z [a0, some (.ref p), a2, some (.int k), some (.int s), some (.str (T l)), some (.str (T ph)), some (.str (T st)), a8, a9, a10, a11, a12, a13, a14] S := by
  have lph := T_short (cs := ph) (by omega)
  have c97 : ∀ c ∈ [97, 98, 99], c ∈ lawSigns := by decide +kernel
  have ho0 : okL ([97, 98] ++ ph.take 38) := okL_app (fun c hc => c97 c (by simp at hc ⊢; omega)) fun c hc => hph.1 c (List.mem_of_mem_take hc)
  have hw0 : okL ([99, 97] ++ ph.take 38) := okL_app (fun c hc => c97 c (by simp at hc ⊢; omega)) fun c hc => hph.1 c (List.mem_of_mem_take hc)
  have ho := okL_phr ho0 (by simp) (by simp; omega)
  have hw := okL_phr hw0 (by simp) (by simp; omega)
  have e1 : ("ab" : Str) ++ cutS (T ph) none (some 38) = T ([97, 98] ++ ph.take 38) := by
    rw [T_cut (by decide), show ("ab" : Str) = T [97, 98] from rfl, T_app]; rfl
  have e2 : ("ca" : Str) ++ cutS (T ph) none (some 38) = T ([99, 97] ++ ph.take 38) := by
    rw [T_cut (by decide), show ("ca" : Str) = T [99, 97] from rfl, T_app]; rfl
  have z1 : ("ab" : Str).length + (cutS (T ph) none (some 38)).length ≤ sizeLine := by
    rw [T_cut (by decide), T_len]; exact size_of (by simp [show ("ab" : Str).length = 2 from rfl]; omega)
  have z2 : ("ca" : Str).length + (cutS (T ph) none (some 38)).length ≤ sizeLine := by
    rw [T_cut (by decide), T_len]; exact size_of (by simp [show ("ca" : Str).length = 2 from rfl]; omega)
  refine ⟨size_of lph, z1, size_of lph, z2, ?_⟩
  rw [e1, e2]
  have ltwo := T_short (cs := [99, 97] ++ ph.take 38) (by simp; omega)
  refine ⟨ho, hs, ltwo, hw.2.2.2, ?_⟩
  refine alike_ok (congrArg (fun x => D.int ((s + x) % 65536)) (numS_two _)) (.inl rfl) ?_
  refine taken_T hr ?_ ?_ ?_; decide; decide
  intro wild S8 w0 w1 r8
  refine taken_T r8 ?_ ?_ ?_; decide; decide
  intro odd S9 d0 d1 r9
  exact tail_slots C Z S9 p _ _ _ _ _ k s wild odd ph _ _ st l hph hst ho hw hl hs ⟨w0, by omega⟩ ⟨d0, by omega⟩ r9 hN
theorem tail_two (C : Str → Addr) (Z : DEnds) (S : Sto) (p : Addr) (a0 a2 a8 a9 a10 a11 a12 a13 a14 : Option D) (k s : Int) (ph st l : List Nat)
    (hph : okL ph ∧ 1 ≤ ph.length ∧ ph.length ≤ 40) (hst : okPhr st) (hl : isTagD (.str (T l)) = true ∧ l.length ≤ 100) (hk : 0 ≤ k ∧ k ≤ 65535) (hs : 0 ≤ s ∧ s ≤ 65535)
    (hr : RowAt (fun _ => none) p S) (hN : ∀ σ S2, (∃ a2 a3 a4 a5 a6 a7 a8 a9 a10 a11 a12 a13 a14, σ = [a0, some (.ref p), a2, a3, a4, a5, a6, a7, a8, a9, a10, a11, a12, a13, a14]) ∧ RowAt (fun _ => none) p S2 → Z.nx σ S2) :
    t_law_4 C Z [a0, some (.ref p), a2, some (.int k), some (.int s), some (.str (T l)), some (.str (T ph)), some (.str (T st)), a8, a9, a10, a11, a12, a13, a14] S := by
  have lph := T_short (cs := ph) (by omega)
  have ll := T_short (cs := l) hl.2
  have hp := okL_phr hph.1 hph.2.1 hph.2.2
  refine ⟨hp, hs, lph, hp.2.2.2, ?_⟩
  refine alike_ok rfl (.inl rfl) ?_
  refine ⟨hk, hl.1, ll, hp, hs, lph, hp.2.2.2, ?_⟩
  refine alike_ok rfl (slotF_alike (slotF_T k s l ph)) ?_
  exact tail_one C Z S p _ _ _ _ _ _ _ _ _ k s ph st l hph hst hl hs hr hN
theorem pure_law (C : Str → Addr) : ∀ ds S Q E, sp_law C ds S Q E → r_law C (dends Q E) (dstart N_law ds) S := by
  rintro ds S Q E ⟨ns, rfl, hn, rfl, hq⟩
  refine ⟨size_of (by simp), fun p hp => ⟨by decide, by decide, ?_⟩⟩
  refine loop0 (fun i σ S => (∃ a2 a3 a4 a5 a6 a7 a8 a9 a10 a11 a12 a13 a14, σ = [some (.scr ns), some (.ref p), a2, a3, a4, a5, a6, a7, a8, a9, a10, a11, a12, a13, a14]) ∧ RowAt (fun _ => none) p S) ⟨⟨_, _, _, _, _, _, _, _, _, _, _, _, _, rfl⟩, _, ⟨ns, 0, 4303, 0, rfl, by decide, by decide, by decide⟩, rfl⟩ ?_ fun σ S _ => hq S
  rintro i x σ S hx ⟨⟨a2, a3, a4, a5, a6, a7, a8, a9, a10, a11, a12, a13, a14, rfl⟩, r0⟩ N hN
  refine taken_T r0 ?_ ?_ ?_; decide; decide
  intro k S1 k0 k1 r1
  refine taken_T r1 ?_ ?_ ?_; decide; decide
  intro s S2 s0 s1 r2
  refine taken_T r2 ?_ ?_ ?_; decide; decide
  intro b S3 _ _ r3
  show if (eqF _ _) = true then _ else _
  refine opt_P (fun a : Int × Int => D.int a.1) (fun a => D.int a.2) (fun a => (0 ≤ a.1 ∧ a.1 ≤ 65535) ∧ (0 ≤ a.2 ∧ a.2 ≤ 65535)) (k, s) r3 ⟨⟨k0, by omega⟩, ⟨s0, by omega⟩⟩ rfl rfl
    (fun h => ⟨size_of (by simp), pick_I [0, 1, 65535] rfl r3 (by decide) (by decide) fun n hn S4 r4 => ⟨size_of (by simp), pick_I [0, 1, 65535] rfl r4 (by decide) (by decide) fun m hm S5 r5 => h (n, m) S5 (by simp at hn hm; exact ⟨by simp; omega, by simp; omega⟩) r5⟩⟩) fun ks S4 hks r4 => ?_
  obtain ⟨k, s⟩ := ks
  obtain ⟨hk, hs⟩ := hks
  simp only at hk hs
  refine text_T r4 (by decide) (by decide) (by decide) fun l S5 l0 l1 l2 r5 => ?_
  refine text_T r5 (by decide) (by decide) (by decide) fun ph S6 p0 p1 p2 r6 => ?_
  refine text_T r6 (by decide) (by decide) (by decide) fun st S7 t0 t1 t2 r7 => ?_
  exact tail_two C _ S7 p _ _ _ _ _ _ _ _ _ k s ph st l ⟨p0, by omega, by omega⟩ (okL_phr t0 (by omega) (by omega)) ⟨okL_tag l0 (by omega) (by omega), by omega⟩ hk hs r7 hN

theorem fn_law {P : Program} {w : World} {K : PySem.W.Frag} {mg : Str → Option Value} {base : Heap} (C : Str → Addr) {f : Addr} {fd : FuncData} (F : Fun K "law" "law" s_law f fd) (D__law_taken : Has P w K mg base 1 "_law_taken" ["row", "many"] (sp__law_taken C)) (D__law_pick : Has P w K mg base 2 "_law_pick" ["row", "some"] (sp__law_pick C)) (D__law_text : Has P w K mg base 3 "_law_text" ["row", "least", "most"] (sp__law_text C)) (D__law_alike : Has P w K mg base 6 "_law_alike" ["found", "due"] (sp__law_alike C)) (D__law_number : Has P w K mg base 1 "_law_number" ["phrase", "salt"] (sp__law_number C)) (D_phrase_number : Has P w K mg base 4 "phrase_number" ["phrase", "salt"] (sp_phrase_number C)) (D__law_slot : Has P w K mg base 2 "_law_slot" ["key", "label", "phrase", "salt"] (sp__law_slot C)) (D_slot_of : Has P w K mg base 5 "slot_of" ["key", "label", "phrase", "salt"] (sp_slot_of C)) (D__law_key : Has P w K mg base 2 "_law_key" ["slot", "phrase"] (sp__law_key C)) (D_key_of : Has P w K mg base 5 "key_of" ["slot", "phrase"] (sp_key_of C)) (z_int : mg "int" = none) (z_range : mg "range" = none) : FnOk P w K mg base (L2.CX P w) 7 f fd ["script"] (lift K (sp_law C)) := by
  refine okD (k := 6) F sc_law (fun ds S Q E h => by obtain ⟨ns, rfl, _⟩ := h; rfl) fun cdv A outer s H E hr => ⟨r_law C, ?_, pure_law C⟩
  exact (dss_cons (ds_set (i := 1) sc_law.nd rfl (Or.inl rfl) (de_lstM (da_cons (de_var 0) (da_cons de_int (da_cons de_int (da_cons de_int da_nil))))))
 (dss_cons (ds_for (passes_of rfl) rfl (di_range1 (by rfl) z_range (da_cons de_int da_nil)) (dg_name (i := 2) sc_law.nd rfl (Or.inl rfl))
 (dss_cons (ds_par rfl sc_law.nd rfl rfl (by decide) rfl rfl (da_cons (de_has (takes_of rfl rfl rfl rfl) D__law_taken (hr.mono (by decide)) (by rfl) (da_cons (de_var 1) (da_cons de_int da_nil))) (da_cons (de_has (takes_of rfl rfl rfl rfl) D__law_taken (hr.mono (by decide)) (by rfl) (da_cons (de_var 1) (da_cons de_int da_nil))) da_nil)))
 (dss_cons (ds_if (dt_cmp (dop_eqG hr.units) (de_has (takes_of rfl rfl rfl rfl) D__law_taken (hr.mono (by decide)) (by rfl) (da_cons (de_var 1) (da_cons de_int da_nil))) de_int)
 (dss_one (ds_par rfl sc_law.nd rfl rfl (by decide) rfl rfl (da_cons (de_has (takes_of rfl rfl rfl rfl) D__law_pick (hr.mono (by decide)) (by rfl) (da_cons (de_var 1) (da_cons (de_lst (da_cons de_int (da_cons de_int (da_cons de_int da_nil)))) da_nil))) (da_cons (de_has (takes_of rfl rfl rfl rfl) D__law_pick (hr.mono (by decide)) (by rfl) (da_cons (de_var 1) (da_cons (de_lst (da_cons de_int (da_cons de_int (da_cons de_int da_nil)))) da_nil))) da_nil))))
 dss_nil)
 (dss_cons (ds_par3 rfl sc_law.nd rfl rfl rfl (by decide) (by decide) (by decide) rfl rfl rfl (da_cons (de_has (takes_of rfl rfl rfl rfl) D__law_text (hr.mono (by decide)) (by rfl) (da_cons (de_var 1) (da_cons de_int (da_cons de_int da_nil)))) (da_cons (de_has (takes_of rfl rfl rfl rfl) D__law_text (hr.mono (by decide)) (by rfl) (da_cons (de_var 1) (da_cons de_int (da_cons de_int da_nil)))) (da_cons (de_has (takes_of rfl rfl rfl rfl) D__law_text (hr.mono (by decide)) (by rfl) (da_cons (de_var 1) (da_cons de_int (da_cons de_int da_nil)))) da_nil))))
 (dss_cons (ds_if (dt_not (dt_truth (de_has (takes_of rfl rfl rfl rfl) D__law_alike (hr.mono (by decide)) (by rfl) (da_cons (de_has (takes_of rfl rfl rfl rfl) D_phrase_number (hr.mono (by decide)) (by rfl) (da_cons (de_var 6) (da_cons (de_var 4) da_nil))) (da_cons (de_has (takes_of rfl rfl rfl rfl) D__law_number (hr.mono (by decide)) (by rfl) (da_cons (de_var 6) (da_cons (de_var 4) da_nil))) da_nil)))))
 (dss_one (ds_ret de_bl))
 dss_nil)
 (dss_cons (ds_if (dt_not (dt_truth (de_has (takes_of rfl rfl rfl rfl) D__law_alike (hr.mono (by decide)) (by rfl) (da_cons (de_has (takes_of rfl rfl rfl rfl) D_slot_of (hr.mono (by decide)) (by rfl) (da_cons (de_var 3) (da_cons (de_var 5) (da_cons (de_var 6) (da_cons (de_var 4) da_nil))))) (da_cons (de_has (takes_of rfl rfl rfl rfl) D__law_slot (hr.mono (by decide)) (by rfl) (da_cons (de_var 3) (da_cons (de_var 5) (da_cons (de_var 6) (da_cons (de_var 4) da_nil))))) da_nil)))))
 (dss_one (ds_ret de_bl))
 dss_nil)
 (dss_cons (ds_par rfl sc_law.nd rfl rfl (by decide) rfl rfl (da_cons (de_op dop_add de_str (de_slice (de_var 6) do_none (do_some de_int))) (da_cons (de_op dop_add de_str (de_slice (de_var 6) do_none (do_some de_int))) da_nil)))
 (dss_cons (ds_if (dt_not (dt_truth (de_has (takes_of rfl rfl rfl rfl) D__law_alike (hr.mono (by decide)) (by rfl) (da_cons (de_has (takes_of rfl rfl rfl rfl) D_phrase_number (hr.mono (by decide)) (by rfl) (da_cons (de_var 8) (da_cons (de_var 4) da_nil))) (da_cons (de_has (takes_of rfl rfl rfl rfl) D__law_number (hr.mono (by decide)) (by rfl) (da_cons (de_var 9) (da_cons (de_var 4) da_nil))) da_nil)))))
 (dss_one (ds_ret de_bl))
 dss_nil)
 (dss_cons (ds_par rfl sc_law.nd rfl rfl (by decide) rfl rfl (da_cons (de_has (takes_of rfl rfl rfl rfl) D__law_taken (hr.mono (by decide)) (by rfl) (da_cons (de_var 1) (da_cons de_int da_nil))) (da_cons (de_has (takes_of rfl rfl rfl rfl) D__law_taken (hr.mono (by decide)) (by rfl) (da_cons (de_var 1) (da_cons de_int da_nil))) da_nil)))
 (dss_cons (ds_set (i := 12) sc_law.nd rfl (Or.inl rfl) (de_lstM (da_cons (de_has (takes_of rfl rfl rfl rfl) D__law_slot (hr.mono (by decide)) (by rfl) (da_cons (de_var 3) (da_cons (de_var 5) (da_cons (de_var 6) (da_cons (de_var 4) da_nil))))) (da_cons (de_has (takes_of rfl rfl rfl rfl) D__law_slot (hr.mono (by decide)) (by rfl) (da_cons (de_var 3) (da_cons (de_var 5) (da_cons (de_var 8) (da_cons (de_var 4) da_nil))))) (da_cons (de_tup (da_cons (de_var 5) (da_cons (de_var 4) (da_cons (de_var 10) (da_cons (de_var 11) da_nil))))) da_nil)))))
 (dss_cons (ds_expr (de_append (de_var 12) (de_tup (da_cons (de_var 5) (da_cons (de_var 4) (da_cons (de_var 10) (da_cons (de_op dop_mod (de_callTy dc_int (by rfl) z_int (by decide +kernel) (da_cons (de_op dop_add (de_op dop_mulG de_int (de_var 11)) de_int) da_nil)) de_int) da_nil)))))))
 (dss_cons (ds_expr (de_append (de_var 12) (de_tup (da_cons (de_var 5) (da_cons (de_var 4) (da_cons (de_op dop_mod (de_callTy dc_int (by rfl) z_int (by decide +kernel) (da_cons (de_op dop_add (de_var 10) (de_has (takes_of rfl rfl rfl rfl) D__law_number (hr.mono (by decide)) (by rfl) (da_cons (de_var 7) (da_cons (de_var 4) da_nil)))) da_nil)) de_int) (da_cons (de_op dop_mod (de_callTy dc_int (by rfl) z_int (by decide +kernel) (da_cons (de_op dop_add (de_op dop_mulG de_int (de_var 10)) de_int) da_nil)) de_int) da_nil)))))))
 (ds_frzS 12 (dss_one (ds_for (passes_of rfl) rfl (di_seq (de_var 12)) (dg_name (i := 13) sc_law.nd rfl (Or.inl rfl))
 (dss_one (ds_for (passes_of rfl) rfl (di_seq (de_lst (da_cons (de_var 6) (da_cons (de_var 8) (da_cons (de_var 9) (da_cons (de_var 7) (da_cons (de_revS (de_var 6)) (da_cons (de_slice (de_op dop_add (de_var 6) de_str) do_none (do_some de_int)) da_nil)))))))) (dg_name (i := 14) sc_law.nd rfl (Or.inl rfl))
 (dss_one (ds_if (dt_not (dt_truth (de_has (takes_of rfl rfl rfl rfl) D__law_alike (hr.mono (by decide)) (by rfl) (da_cons (de_has (takes_of rfl rfl rfl rfl) D_key_of (hr.mono (by decide)) (by rfl) (da_cons (de_var 13) (da_cons (de_var 14) da_nil))) (da_cons (de_has (takes_of rfl rfl rfl rfl) D__law_key (hr.mono (by decide)) (by rfl) (da_cons (de_var 13) (da_cons (de_var 14) da_nil))) da_nil)))))
 (dss_one (ds_ret de_bl))
 dss_nil)))))))))))))))))))
 (dss_one (ds_ret de_bl))))
abbrev s_init : Stmt := inClass (topS 1) 0
theorem scI : FnScope ["self", "value"] ["self", "value"] (defScope s_init) := ⟨rfl, rfl, rfl, by decide +kernel, rfl, by decide +kernel, by decide +kernel⟩
theorem all_mk {P : Program} {w : World} {K : PySem.W.Frag} {h : Heap} {mg : Str → Option Value} (X : K.In h) (G : h.Ns mainGlobals mg) {f_is_integer : Addr} {od_is_integer an_is_integer : Option Addr} {sl_is_integer : Array (Option Value)} {oc_is_integer kV_is_integer dc_is_integer pm_is_integer cd_is_integer ct_is_integer : Value} {f_is_within : Addr} {od_is_within an_is_within : Option Addr} {sl_is_within : Array (Option Value)} {oc_is_within kV_is_within dc_is_within pm_is_within cd_is_within ct_is_within : Value} {f_is_text : Addr} {od_is_text an_is_text : Option Addr} {sl_is_text : Array (Option Value)} {oc_is_text kV_is_text dc_is_text pm_is_text cd_is_text ct_is_text : Value} {f_is_label : Addr} {od_is_label an_is_label : Option Addr} {sl_is_label : Array (Option Value)} {oc_is_label kV_is_label dc_is_label pm_is_label cd_is_label ct_is_label : Value} {f_is_tag : Addr} {od_is_tag an_is_tag : Option Addr} {sl_is_tag : Array (Option Value)} {oc_is_tag kV_is_tag dc_is_tag pm_is_tag cd_is_tag ct_is_tag : Value} {f_check_key : Addr} {od_check_key an_check_key : Option Addr} {sl_check_key : Array (Option Value)} {oc_check_key kV_check_key dc_check_key pm_check_key cd_check_key ct_check_key : Value} {f_check_phrase : Addr} {od_check_phrase an_check_phrase : Option Addr} {sl_check_phrase : Array (Option Value)} {oc_check_phrase kV_check_phrase dc_check_phrase pm_check_phrase cd_check_phrase ct_check_phrase : Value} {f_check_salt : Addr} {od_check_salt an_check_salt : Option Addr} {sl_check_salt : Array (Option Value)} {oc_check_salt kV_check_salt dc_check_salt pm_check_salt cd_check_salt ct_check_salt : Value} {f_check_label : Addr} {od_check_label an_check_label : Option Addr} {sl_check_label : Array (Option Value)} {oc_check_label kV_check_label dc_check_label pm_check_label cd_check_label ct_check_label : Value} {f_number_of : Addr} {od_number_of an_number_of : Option Addr} {sl_number_of : Array (Option Value)} {oc_number_of kV_number_of dc_number_of pm_number_of cd_number_of ct_number_of : Value} {f_check_of : Addr} {od_check_of an_check_of : Option Addr} {sl_check_of : Array (Option Value)} {oc_check_of kV_check_of dc_check_of pm_check_of cd_check_of ct_check_of : Value} {f_is_slot : Addr} {od_is_slot an_is_slot : Option Addr} {sl_is_slot : Array (Option Value)} {oc_is_slot kV_is_slot dc_is_slot pm_is_slot cd_is_slot ct_is_slot : Value} {f_opened_key : Addr} {od_opened_key an_opened_key : Option Addr} {sl_opened_key : Array (Option Value)} {oc_opened_key kV_opened_key dc_opened_key pm_opened_key cd_opened_key ct_opened_key : Value} {f_phrase_number : Addr} {od_phrase_number an_phrase_number : Option Addr} {sl_phrase_number : Array (Option Value)} {oc_phrase_number kV_phrase_number dc_phrase_number pm_phrase_number cd_phrase_number ct_phrase_number : Value} {f_slot_of : Addr} {od_slot_of an_slot_of : Option Addr} {sl_slot_of : Array (Option Value)} {oc_slot_of kV_slot_of dc_slot_of pm_slot_of cd_slot_of ct_slot_of : Value} {f_key_of : Addr} {od_key_of an_key_of : Option Addr} {sl_key_of : Array (Option Value)} {oc_key_of kV_key_of dc_key_of pm_key_of cd_key_of ct_key_of : Value} {f__law_taken : Addr} {od__law_taken an__law_taken : Option Addr} {sl__law_taken : Array (Option Value)} {oc__law_taken kV__law_taken dc__law_taken pm__law_taken cd__law_taken ct__law_taken : Value} {f__law_pick : Addr} {od__law_pick an__law_pick : Option Addr} {sl__law_pick : Array (Option Value)} {oc__law_pick kV__law_pick dc__law_pick pm__law_pick cd__law_pick ct__law_pick : Value} {f__law_alike : Addr} {od__law_alike an__law_alike : Option Addr} {sl__law_alike : Array (Option Value)} {oc__law_alike kV__law_alike dc__law_alike pm__law_alike cd__law_alike ct__law_alike : Value} {f__law_text : Addr} {od__law_text an__law_text : Option Addr} {sl__law_text : Array (Option Value)} {oc__law_text kV__law_text dc__law_text pm__law_text cd__law_text ct__law_text : Value} {f__law_number : Addr} {od__law_number an__law_number : Option Addr} {sl__law_number : Array (Option Value)} {oc__law_number kV__law_number dc__law_number pm__law_number cd__law_number ct__law_number : Value} {f__law_slot : Addr} {od__law_slot an__law_slot : Option Addr} {sl__law_slot : Array (Option Value)} {oc__law_slot kV__law_slot dc__law_slot pm__law_slot cd__law_slot ct__law_slot : Value} {f__law_key : Addr} {od__law_key an__law_key : Option Addr} {sl__law_key : Array (Option Value)} {oc__law_key kV__law_key dc__law_key pm__law_key cd__law_key ct__law_key : Value} {f_law : Addr} {od_law an_law : Option Addr} {sl_law : Array (Option Value)} {oc_law kV_law dc_law pm_law cd_law ct_law : Value} {t_SIGNS : Tok} {t_MOST_LABEL : Tok} {t_MOST_KEY : Tok} {t_MOST_PHRASE : Tok} {t_MOST_NUMBER : Tok} {t_ALL_NUMBERS : Tok} {fI TI : Addr} {odI anI odT : Option Addr} {slI slT : Array (Option Value)} {ocI kVI dcI pmI cdI ctI ocT : Value} {nT : Nat} {C_BadKey : Addr} {nm_BadKey q_BadKey : _} {N_BadKey : _} {bs_BadKey bm_BadKey : _} {sn_BadKey sub_BadKey ab_BadKey col_BadKey dd_BadKey k0_BadKey k1_BadKey k2_BadKey k3_BadKey k5_BadKey : _} {C_BadPhrase : Addr} {nm_BadPhrase q_BadPhrase : _} {N_BadPhrase : _} {bs_BadPhrase bm_BadPhrase : _} {sn_BadPhrase sub_BadPhrase ab_BadPhrase col_BadPhrase dd_BadPhrase k0_BadPhrase k1_BadPhrase k2_BadPhrase k3_BadPhrase k5_BadPhrase : _} {C_BadSalt : Addr} {nm_BadSalt q_BadSalt : _} {N_BadSalt : _} {bs_BadSalt bm_BadSalt : _} {sn_BadSalt sub_BadSalt ab_BadSalt col_BadSalt dd_BadSalt k0_BadSalt k1_BadSalt k2_BadSalt k3_BadSalt k5_BadSalt : _} {C_BadLabel : Addr} {nm_BadLabel q_BadLabel : _} {N_BadLabel : _} {bs_BadLabel bm_BadLabel : _} {sn_BadLabel sub_BadLabel ab_BadLabel col_BadLabel dd_BadLabel k0_BadLabel k1_BadLabel k2_BadLabel k3_BadLabel k5_BadLabel : _} {C_BadSlot : Addr} {nm_BadSlot q_BadSlot : _} {N_BadSlot : _} {bs_BadSlot bm_BadSlot : _} {sn_BadSlot sub_BadSlot ab_BadSlot col_BadSlot dd_BadSlot k0_BadSlot k1_BadSlot k2_BadSlot k3_BadSlot k5_BadSlot : _}
    (a_is_integer : PySem.W.nsIn K mainGlobals "is_integer" = some (some (.ref f_is_integer)))
    (l_is_integer : K.lookup f_is_integer = some ⟨oc_is_integer, od_is_integer, .func (PySem.W.fnOf "is_integer" "is_integer" (defArgs s_is_integer) (defBody s_is_integer) (defScope s_is_integer) .none kV_is_integer dc_is_integer pm_is_integer an_is_integer cd_is_integer ct_is_integer), sl_is_integer⟩)
    (b_is_integer : PySem.W.codeIn K cd_is_integer "is_integer" = true)
    (k_is_integer : PySem.W.keepIn K (.ref f_is_integer) = true)
    (a_is_within : PySem.W.nsIn K mainGlobals "is_within" = some (some (.ref f_is_within)))
    (l_is_within : K.lookup f_is_within = some ⟨oc_is_within, od_is_within, .func (PySem.W.fnOf "is_within" "is_within" (defArgs s_is_within) (defBody s_is_within) (defScope s_is_within) .none kV_is_within dc_is_within pm_is_within an_is_within cd_is_within ct_is_within), sl_is_within⟩)
    (b_is_within : PySem.W.codeIn K cd_is_within "is_within" = true)
    (k_is_within : PySem.W.keepIn K (.ref f_is_within) = true)
    (a_is_text : PySem.W.nsIn K mainGlobals "is_text" = some (some (.ref f_is_text)))
    (l_is_text : K.lookup f_is_text = some ⟨oc_is_text, od_is_text, .func (PySem.W.fnOf "is_text" "is_text" (defArgs s_is_text) (defBody s_is_text) (defScope s_is_text) .none kV_is_text dc_is_text pm_is_text an_is_text cd_is_text ct_is_text), sl_is_text⟩)
    (b_is_text : PySem.W.codeIn K cd_is_text "is_text" = true)
    (k_is_text : PySem.W.keepIn K (.ref f_is_text) = true)
    (a_is_label : PySem.W.nsIn K mainGlobals "is_label" = some (some (.ref f_is_label)))
    (l_is_label : K.lookup f_is_label = some ⟨oc_is_label, od_is_label, .func (PySem.W.fnOf "is_label" "is_label" (defArgs s_is_label) (defBody s_is_label) (defScope s_is_label) .none kV_is_label dc_is_label pm_is_label an_is_label cd_is_label ct_is_label), sl_is_label⟩)
    (b_is_label : PySem.W.codeIn K cd_is_label "is_label" = true)
    (k_is_label : PySem.W.keepIn K (.ref f_is_label) = true)
    (a_is_tag : PySem.W.nsIn K mainGlobals "is_tag" = some (some (.ref f_is_tag)))
    (l_is_tag : K.lookup f_is_tag = some ⟨oc_is_tag, od_is_tag, .func (PySem.W.fnOf "is_tag" "is_tag" (defArgs s_is_tag) (defBody s_is_tag) (defScope s_is_tag) .none kV_is_tag dc_is_tag pm_is_tag an_is_tag cd_is_tag ct_is_tag), sl_is_tag⟩)
    (b_is_tag : PySem.W.codeIn K cd_is_tag "is_tag" = true)
    (k_is_tag : PySem.W.keepIn K (.ref f_is_tag) = true)
    (a_check_key : PySem.W.nsIn K mainGlobals "check_key" = some (some (.ref f_check_key)))
    (l_check_key : K.lookup f_check_key = some ⟨oc_check_key, od_check_key, .func (PySem.W.fnOf "check_key" "check_key" (defArgs s_check_key) (defBody s_check_key) (defScope s_check_key) .none kV_check_key dc_check_key pm_check_key an_check_key cd_check_key ct_check_key), sl_check_key⟩)
    (b_check_key : PySem.W.codeIn K cd_check_key "check_key" = true)
    (k_check_key : PySem.W.keepIn K (.ref f_check_key) = true)
    (a_check_phrase : PySem.W.nsIn K mainGlobals "check_phrase" = some (some (.ref f_check_phrase)))
    (l_check_phrase : K.lookup f_check_phrase = some ⟨oc_check_phrase, od_check_phrase, .func (PySem.W.fnOf "check_phrase" "check_phrase" (defArgs s_check_phrase) (defBody s_check_phrase) (defScope s_check_phrase) .none kV_check_phrase dc_check_phrase pm_check_phrase an_check_phrase cd_check_phrase ct_check_phrase), sl_check_phrase⟩)
    (b_check_phrase : PySem.W.codeIn K cd_check_phrase "check_phrase" = true)
    (k_check_phrase : PySem.W.keepIn K (.ref f_check_phrase) = true)
    (a_check_salt : PySem.W.nsIn K mainGlobals "check_salt" = some (some (.ref f_check_salt)))
    (l_check_salt : K.lookup f_check_salt = some ⟨oc_check_salt, od_check_salt, .func (PySem.W.fnOf "check_salt" "check_salt" (defArgs s_check_salt) (defBody s_check_salt) (defScope s_check_salt) .none kV_check_salt dc_check_salt pm_check_salt an_check_salt cd_check_salt ct_check_salt), sl_check_salt⟩)
    (b_check_salt : PySem.W.codeIn K cd_check_salt "check_salt" = true)
    (k_check_salt : PySem.W.keepIn K (.ref f_check_salt) = true)
    (a_check_label : PySem.W.nsIn K mainGlobals "check_label" = some (some (.ref f_check_label)))
    (l_check_label : K.lookup f_check_label = some ⟨oc_check_label, od_check_label, .func (PySem.W.fnOf "check_label" "check_label" (defArgs s_check_label) (defBody s_check_label) (defScope s_check_label) .none kV_check_label dc_check_label pm_check_label an_check_label cd_check_label ct_check_label), sl_check_label⟩)
    (b_check_label : PySem.W.codeIn K cd_check_label "check_label" = true)
    (k_check_label : PySem.W.keepIn K (.ref f_check_label) = true)
    (a_number_of : PySem.W.nsIn K mainGlobals "number_of" = some (some (.ref f_number_of)))
    (l_number_of : K.lookup f_number_of = some ⟨oc_number_of, od_number_of, .func (PySem.W.fnOf "number_of" "number_of" (defArgs s_number_of) (defBody s_number_of) (defScope s_number_of) .none kV_number_of dc_number_of pm_number_of an_number_of cd_number_of ct_number_of), sl_number_of⟩)
    (b_number_of : PySem.W.codeIn K cd_number_of "number_of" = true)
    (k_number_of : PySem.W.keepIn K (.ref f_number_of) = true)
    (a_check_of : PySem.W.nsIn K mainGlobals "check_of" = some (some (.ref f_check_of)))
    (l_check_of : K.lookup f_check_of = some ⟨oc_check_of, od_check_of, .func (PySem.W.fnOf "check_of" "check_of" (defArgs s_check_of) (defBody s_check_of) (defScope s_check_of) .none kV_check_of dc_check_of pm_check_of an_check_of cd_check_of ct_check_of), sl_check_of⟩)
    (b_check_of : PySem.W.codeIn K cd_check_of "check_of" = true)
    (k_check_of : PySem.W.keepIn K (.ref f_check_of) = true)
    (a_is_slot : PySem.W.nsIn K mainGlobals "is_slot" = some (some (.ref f_is_slot)))
    (l_is_slot : K.lookup f_is_slot = some ⟨oc_is_slot, od_is_slot, .func (PySem.W.fnOf "is_slot" "is_slot" (defArgs s_is_slot) (defBody s_is_slot) (defScope s_is_slot) .none kV_is_slot dc_is_slot pm_is_slot an_is_slot cd_is_slot ct_is_slot), sl_is_slot⟩)
    (b_is_slot : PySem.W.codeIn K cd_is_slot "is_slot" = true)
    (k_is_slot : PySem.W.keepIn K (.ref f_is_slot) = true)
    (a_opened_key : PySem.W.nsIn K mainGlobals "opened_key" = some (some (.ref f_opened_key)))
    (l_opened_key : K.lookup f_opened_key = some ⟨oc_opened_key, od_opened_key, .func (PySem.W.fnOf "opened_key" "opened_key" (defArgs s_opened_key) (defBody s_opened_key) (defScope s_opened_key) .none kV_opened_key dc_opened_key pm_opened_key an_opened_key cd_opened_key ct_opened_key), sl_opened_key⟩)
    (b_opened_key : PySem.W.codeIn K cd_opened_key "opened_key" = true)
    (k_opened_key : PySem.W.keepIn K (.ref f_opened_key) = true)
    (a_phrase_number : PySem.W.nsIn K mainGlobals "phrase_number" = some (some (.ref f_phrase_number)))
    (l_phrase_number : K.lookup f_phrase_number = some ⟨oc_phrase_number, od_phrase_number, .func (PySem.W.fnOf "phrase_number" "phrase_number" (defArgs s_phrase_number) (defBody s_phrase_number) (defScope s_phrase_number) .none kV_phrase_number dc_phrase_number pm_phrase_number an_phrase_number cd_phrase_number ct_phrase_number), sl_phrase_number⟩)
    (b_phrase_number : PySem.W.codeIn K cd_phrase_number "phrase_number" = true)
    (k_phrase_number : PySem.W.keepIn K (.ref f_phrase_number) = true)
    (a_slot_of : PySem.W.nsIn K mainGlobals "slot_of" = some (some (.ref f_slot_of)))
    (l_slot_of : K.lookup f_slot_of = some ⟨oc_slot_of, od_slot_of, .func (PySem.W.fnOf "slot_of" "slot_of" (defArgs s_slot_of) (defBody s_slot_of) (defScope s_slot_of) .none kV_slot_of dc_slot_of pm_slot_of an_slot_of cd_slot_of ct_slot_of), sl_slot_of⟩)
    (b_slot_of : PySem.W.codeIn K cd_slot_of "slot_of" = true)
    (k_slot_of : PySem.W.keepIn K (.ref f_slot_of) = true)
    (a_key_of : PySem.W.nsIn K mainGlobals "key_of" = some (some (.ref f_key_of)))
    (l_key_of : K.lookup f_key_of = some ⟨oc_key_of, od_key_of, .func (PySem.W.fnOf "key_of" "key_of" (defArgs s_key_of) (defBody s_key_of) (defScope s_key_of) .none kV_key_of dc_key_of pm_key_of an_key_of cd_key_of ct_key_of), sl_key_of⟩)
    (b_key_of : PySem.W.codeIn K cd_key_of "key_of" = true)
    (k_key_of : PySem.W.keepIn K (.ref f_key_of) = true)
    (a__law_taken : PySem.W.nsIn K mainGlobals "_law_taken" = some (some (.ref f__law_taken)))
    (l__law_taken : K.lookup f__law_taken = some ⟨oc__law_taken, od__law_taken, .func (PySem.W.fnOf "_law_taken" "_law_taken" (defArgs s__law_taken) (defBody s__law_taken) (defScope s__law_taken) .none kV__law_taken dc__law_taken pm__law_taken an__law_taken cd__law_taken ct__law_taken), sl__law_taken⟩)
    (b__law_taken : PySem.W.codeIn K cd__law_taken "_law_taken" = true)
    (k__law_taken : PySem.W.keepIn K (.ref f__law_taken) = true)
    (a__law_pick : PySem.W.nsIn K mainGlobals "_law_pick" = some (some (.ref f__law_pick)))
    (l__law_pick : K.lookup f__law_pick = some ⟨oc__law_pick, od__law_pick, .func (PySem.W.fnOf "_law_pick" "_law_pick" (defArgs s__law_pick) (defBody s__law_pick) (defScope s__law_pick) .none kV__law_pick dc__law_pick pm__law_pick an__law_pick cd__law_pick ct__law_pick), sl__law_pick⟩)
    (b__law_pick : PySem.W.codeIn K cd__law_pick "_law_pick" = true)
    (k__law_pick : PySem.W.keepIn K (.ref f__law_pick) = true)
    (a__law_alike : PySem.W.nsIn K mainGlobals "_law_alike" = some (some (.ref f__law_alike)))
    (l__law_alike : K.lookup f__law_alike = some ⟨oc__law_alike, od__law_alike, .func (PySem.W.fnOf "_law_alike" "_law_alike" (defArgs s__law_alike) (defBody s__law_alike) (defScope s__law_alike) .none kV__law_alike dc__law_alike pm__law_alike an__law_alike cd__law_alike ct__law_alike), sl__law_alike⟩)
    (b__law_alike : PySem.W.codeIn K cd__law_alike "_law_alike" = true)
    (k__law_alike : PySem.W.keepIn K (.ref f__law_alike) = true)
    (a__law_text : PySem.W.nsIn K mainGlobals "_law_text" = some (some (.ref f__law_text)))
    (l__law_text : K.lookup f__law_text = some ⟨oc__law_text, od__law_text, .func (PySem.W.fnOf "_law_text" "_law_text" (defArgs s__law_text) (defBody s__law_text) (defScope s__law_text) .none kV__law_text dc__law_text pm__law_text an__law_text cd__law_text ct__law_text), sl__law_text⟩)
    (b__law_text : PySem.W.codeIn K cd__law_text "_law_text" = true)
    (k__law_text : PySem.W.keepIn K (.ref f__law_text) = true)
    (a__law_number : PySem.W.nsIn K mainGlobals "_law_number" = some (some (.ref f__law_number)))
    (l__law_number : K.lookup f__law_number = some ⟨oc__law_number, od__law_number, .func (PySem.W.fnOf "_law_number" "_law_number" (defArgs s__law_number) (defBody s__law_number) (defScope s__law_number) .none kV__law_number dc__law_number pm__law_number an__law_number cd__law_number ct__law_number), sl__law_number⟩)
    (b__law_number : PySem.W.codeIn K cd__law_number "_law_number" = true)
    (k__law_number : PySem.W.keepIn K (.ref f__law_number) = true)
    (a__law_slot : PySem.W.nsIn K mainGlobals "_law_slot" = some (some (.ref f__law_slot)))
    (l__law_slot : K.lookup f__law_slot = some ⟨oc__law_slot, od__law_slot, .func (PySem.W.fnOf "_law_slot" "_law_slot" (defArgs s__law_slot) (defBody s__law_slot) (defScope s__law_slot) .none kV__law_slot dc__law_slot pm__law_slot an__law_slot cd__law_slot ct__law_slot), sl__law_slot⟩)
    (b__law_slot : PySem.W.codeIn K cd__law_slot "_law_slot" = true)
    (k__law_slot : PySem.W.keepIn K (.ref f__law_slot) = true)
    (a__law_key : PySem.W.nsIn K mainGlobals "_law_key" = some (some (.ref f__law_key)))
    (l__law_key : K.lookup f__law_key = some ⟨oc__law_key, od__law_key, .func (PySem.W.fnOf "_law_key" "_law_key" (defArgs s__law_key) (defBody s__law_key) (defScope s__law_key) .none kV__law_key dc__law_key pm__law_key an__law_key cd__law_key ct__law_key), sl__law_key⟩)
    (b__law_key : PySem.W.codeIn K cd__law_key "_law_key" = true)
    (k__law_key : PySem.W.keepIn K (.ref f__law_key) = true)
    (a_law : PySem.W.nsIn K mainGlobals "law" = some (some (.ref f_law)))
    (l_law : K.lookup f_law = some ⟨oc_law, od_law, .func (PySem.W.fnOf "law" "law" (defArgs s_law) (defBody s_law) (defScope s_law) .none kV_law dc_law pm_law an_law cd_law ct_law), sl_law⟩)
    (b_law : PySem.W.codeIn K cd_law "law" = true)
    (k_law : PySem.W.keepIn K (.ref f_law) = true)
    (z_isinstance : PySem.W.nsIn K mainGlobals "isinstance" = some none)
    (z_bool : PySem.W.nsIn K mainGlobals "bool" = some none)
    (z_int : PySem.W.nsIn K mainGlobals "int" = some none)
    (z_all : PySem.W.nsIn K mainGlobals "all" = some none)
    (z_str : PySem.W.nsIn K mainGlobals "str" = some none)
    (z_len : PySem.W.nsIn K mainGlobals "len" = some none)
    (z_sum : PySem.W.nsIn K mainGlobals "sum" = some none)
    (z_enumerate : PySem.W.nsIn K mainGlobals "enumerate" = some none)
    (z_ord : PySem.W.nsIn K mainGlobals "ord" = some none)
    (z_tuple : PySem.W.nsIn K mainGlobals "tuple" = some none)
    (z_list : PySem.W.nsIn K mainGlobals "list" = some none)
    (z_range : PySem.W.nsIn K mainGlobals "range" = some none)
    (z_dict : PySem.W.nsIn K mainGlobals "dict" = some none)
    (z_min : PySem.W.nsIn K mainGlobals "min" = some none)
    (c_SIGNS : PySem.W.nsIn K mainGlobals "SIGNS" = some (some (.str " !\"#$&'()*+,-./0123456789:;<=>?@ABCDEFGHIJKLMNOPQRSTUVWXYZ[\\]^_`abcdefghijklmnopqrstuvwxyz{|}~" t_SIGNS)))
    (c_MOST_LABEL : PySem.W.nsIn K mainGlobals "MOST_LABEL" = some (some (.int 20 t_MOST_LABEL)))
    (c_MOST_KEY : PySem.W.nsIn K mainGlobals "MOST_KEY" = some (some (.int 65535 t_MOST_KEY)))
    (c_MOST_PHRASE : PySem.W.nsIn K mainGlobals "MOST_PHRASE" = some (some (.int 40 t_MOST_PHRASE)))
    (c_MOST_NUMBER : PySem.W.nsIn K mainGlobals "MOST_NUMBER" = some (some (.int 65535 t_MOST_NUMBER)))
    (c_ALL_NUMBERS : PySem.W.nsIn K mainGlobals "ALL_NUMBERS" = some (some (.int 65536 t_ALL_NUMBERS)))
    (ea_BadKey : PySem.W.nsIn K mainGlobals "BadKey" = some (some (.ref C_BadKey)))
    (ei_BadKey : PySem.W.findIn K (.ref C_BadKey) "__init__" = some (some (.ref fI)))
    (ea_BadPhrase : PySem.W.nsIn K mainGlobals "BadPhrase" = some (some (.ref C_BadPhrase)))
    (ei_BadPhrase : PySem.W.findIn K (.ref C_BadPhrase) "__init__" = some (some (.ref fI)))
    (ea_BadSalt : PySem.W.nsIn K mainGlobals "BadSalt" = some (some (.ref C_BadSalt)))
    (ei_BadSalt : PySem.W.findIn K (.ref C_BadSalt) "__init__" = some (some (.ref fI)))
    (ea_BadLabel : PySem.W.nsIn K mainGlobals "BadLabel" = some (some (.ref C_BadLabel)))
    (ei_BadLabel : PySem.W.findIn K (.ref C_BadLabel) "__init__" = some (some (.ref fI)))
    (ea_BadSlot : PySem.W.nsIn K mainGlobals "BadSlot" = some (some (.ref C_BadSlot)))
    (ei_BadSlot : PySem.W.findIn K (.ref C_BadSlot) "__init__" = some (some (.ref fI)))
    (lI : K.lookup fI = some ⟨ocI, odI, .func (PySem.W.fnOf "__init__" "HouseError.__init__" (defArgs s_init) (defBody s_init) (defScope s_init) (.ref TI) kVI dcI pmI anI cdI ctI), slI⟩)
    (bI : PySem.W.codeIn K cdI "HouseError.__init__" = true)
    (kI : PySem.W.keepIn K (.ref fI) = true)
    (tI : PySem.W.typeIn K (.ref fI) = some (.type "function"))
    (lT : K.lookup TI = some ⟨ocT, odT, .seq #[.none] nT, slT⟩)
    (ec_BadKey : K.lookup C_BadKey = some (PySem.excClassObj nm_BadKey q_BadKey C_BadKey N_BadKey bs_BadKey bm_BadKey true sn_BadKey sub_BadKey ab_BadKey col_BadKey dd_BadKey k0_BadKey k1_BadKey k2_BadKey k3_BadKey k5_BadKey "ValueError.__new__"))
    (er_BadKey : PySem.HandSPX.refsVE bm_BadKey = true)
    (es_BadKey : PySem.W.findIn K (.ref C_BadKey) "__setattr__" = some (some (.builtin "object.__setattr__")))
    (ex_BadKey : PySem.W.subIn K (.ref C_BadKey) (.type "BaseException") = some true)
    (ey_BadKey : PySem.W.typeIn K (.ref C_BadKey) = some (.type "type"))
    (ek_BadKey : PySem.W.keepIn K (.ref C_BadKey) = true)
    (en_BadKey : PySem.W.findIn K (.ref C_BadKey) "value" = some none)
    (ec_BadPhrase : K.lookup C_BadPhrase = some (PySem.excClassObj nm_BadPhrase q_BadPhrase C_BadPhrase N_BadPhrase bs_BadPhrase bm_BadPhrase true sn_BadPhrase sub_BadPhrase ab_BadPhrase col_BadPhrase dd_BadPhrase k0_BadPhrase k1_BadPhrase k2_BadPhrase k3_BadPhrase k5_BadPhrase "ValueError.__new__"))
    (er_BadPhrase : PySem.HandSPX.refsVE bm_BadPhrase = true)
    (es_BadPhrase : PySem.W.findIn K (.ref C_BadPhrase) "__setattr__" = some (some (.builtin "object.__setattr__")))
    (ex_BadPhrase : PySem.W.subIn K (.ref C_BadPhrase) (.type "BaseException") = some true)
    (ey_BadPhrase : PySem.W.typeIn K (.ref C_BadPhrase) = some (.type "type"))
    (ek_BadPhrase : PySem.W.keepIn K (.ref C_BadPhrase) = true)
    (en_BadPhrase : PySem.W.findIn K (.ref C_BadPhrase) "value" = some none)
    (ec_BadSalt : K.lookup C_BadSalt = some (PySem.excClassObj nm_BadSalt q_BadSalt C_BadSalt N_BadSalt bs_BadSalt bm_BadSalt true sn_BadSalt sub_BadSalt ab_BadSalt col_BadSalt dd_BadSalt k0_BadSalt k1_BadSalt k2_BadSalt k3_BadSalt k5_BadSalt "ValueError.__new__"))
    (er_BadSalt : PySem.HandSPX.refsVE bm_BadSalt = true)
    (es_BadSalt : PySem.W.findIn K (.ref C_BadSalt) "__setattr__" = some (some (.builtin "object.__setattr__")))
    (ex_BadSalt : PySem.W.subIn K (.ref C_BadSalt) (.type "BaseException") = some true)
    (ey_BadSalt : PySem.W.typeIn K (.ref C_BadSalt) = some (.type "type"))
    (ek_BadSalt : PySem.W.keepIn K (.ref C_BadSalt) = true)
    (en_BadSalt : PySem.W.findIn K (.ref C_BadSalt) "value" = some none)
    (ec_BadLabel : K.lookup C_BadLabel = some (PySem.excClassObj nm_BadLabel q_BadLabel C_BadLabel N_BadLabel bs_BadLabel bm_BadLabel true sn_BadLabel sub_BadLabel ab_BadLabel col_BadLabel dd_BadLabel k0_BadLabel k1_BadLabel k2_BadLabel k3_BadLabel k5_BadLabel "ValueError.__new__"))
    (er_BadLabel : PySem.HandSPX.refsVE bm_BadLabel = true)
    (es_BadLabel : PySem.W.findIn K (.ref C_BadLabel) "__setattr__" = some (some (.builtin "object.__setattr__")))
    (ex_BadLabel : PySem.W.subIn K (.ref C_BadLabel) (.type "BaseException") = some true)
    (ey_BadLabel : PySem.W.typeIn K (.ref C_BadLabel) = some (.type "type"))
    (ek_BadLabel : PySem.W.keepIn K (.ref C_BadLabel) = true)
    (en_BadLabel : PySem.W.findIn K (.ref C_BadLabel) "value" = some none)
    (ec_BadSlot : K.lookup C_BadSlot = some (PySem.excClassObj nm_BadSlot q_BadSlot C_BadSlot N_BadSlot bs_BadSlot bm_BadSlot true sn_BadSlot sub_BadSlot ab_BadSlot col_BadSlot dd_BadSlot k0_BadSlot k1_BadSlot k2_BadSlot k3_BadSlot k5_BadSlot "ValueError.__new__"))
    (er_BadSlot : PySem.HandSPX.refsVE bm_BadSlot = true)
    (es_BadSlot : PySem.W.findIn K (.ref C_BadSlot) "__setattr__" = some (some (.builtin "object.__setattr__")))
    (ex_BadSlot : PySem.W.subIn K (.ref C_BadSlot) (.type "BaseException") = some true)
    (ey_BadSlot : PySem.W.typeIn K (.ref C_BadSlot) = some (.type "type"))
    (ek_BadSlot : PySem.W.keepIn K (.ref C_BadSlot) = true)
    (en_BadSlot : PySem.W.findIn K (.ref C_BadSlot) "value" = some none) :
    ∃ (f : Addr) (fd : FuncData), mg "law" = some (.ref f) ∧ (∀ (s : Shared) (u : Value), BindsTo s fd ⟨[u], []⟩ [("script", u)]) ∧ ∀ base : Heap, K.In base → base.Ns mainGlobals mg → FnOk P w K mg base (L2.CX P w) 7 f fd ["script"] (lift K spLaw) := by
  have A_is_integer : At K mg "is_integer" s_is_integer ["thing"] := at_mk X G a_is_integer l_is_integer b_is_integer k_is_integer (fun _ _ _ _ _ _ us hl => match us, hl with | [_], _ => rfl)
  have A_is_within : At K mg "is_within" s_is_within ["thing", "least", "most"] := at_mk X G a_is_within l_is_within b_is_within k_is_within (fun _ _ _ _ _ _ us hl => match us, hl with | [_, _, _], _ => rfl)
  have A_is_text : At K mg "is_text" s_is_text ["thing"] := at_mk X G a_is_text l_is_text b_is_text k_is_text (fun _ _ _ _ _ _ us hl => match us, hl with | [_], _ => rfl)
  have A_is_label : At K mg "is_label" s_is_label ["thing"] := at_mk X G a_is_label l_is_label b_is_label k_is_label (fun _ _ _ _ _ _ us hl => match us, hl with | [_], _ => rfl)
  have A_is_tag : At K mg "is_tag" s_is_tag ["thing"] := at_mk X G a_is_tag l_is_tag b_is_tag k_is_tag (fun _ _ _ _ _ _ us hl => match us, hl with | [_], _ => rfl)
  have A_check_key : At K mg "check_key" s_check_key ["key"] := at_mk X G a_check_key l_check_key b_check_key k_check_key (fun _ _ _ _ _ _ us hl => match us, hl with | [_], _ => rfl)
  have A_check_phrase : At K mg "check_phrase" s_check_phrase ["phrase"] := at_mk X G a_check_phrase l_check_phrase b_check_phrase k_check_phrase (fun _ _ _ _ _ _ us hl => match us, hl with | [_], _ => rfl)
  have A_check_salt : At K mg "check_salt" s_check_salt ["salt"] := at_mk X G a_check_salt l_check_salt b_check_salt k_check_salt (fun _ _ _ _ _ _ us hl => match us, hl with | [_], _ => rfl)
  have A_check_label : At K mg "check_label" s_check_label ["label"] := at_mk X G a_check_label l_check_label b_check_label k_check_label (fun _ _ _ _ _ _ us hl => match us, hl with | [_], _ => rfl)
  have A_number_of : At K mg "number_of" s_number_of ["phrase", "salt"] := at_mk X G a_number_of l_number_of b_number_of k_number_of (fun _ _ _ _ _ _ us hl => match us, hl with | [_, _], _ => rfl)
  have A_check_of : At K mg "check_of" s_check_of ["key"] := at_mk X G a_check_of l_check_of b_check_of k_check_of (fun _ _ _ _ _ _ us hl => match us, hl with | [_], _ => rfl)
  have A_is_slot : At K mg "is_slot" s_is_slot ["thing"] := at_mk X G a_is_slot l_is_slot b_is_slot k_is_slot (fun _ _ _ _ _ _ us hl => match us, hl with | [_], _ => rfl)
  have A_opened_key : At K mg "opened_key" s_opened_key ["slot", "phrase"] := at_mk X G a_opened_key l_opened_key b_opened_key k_opened_key (fun _ _ _ _ _ _ us hl => match us, hl with | [_, _], _ => rfl)
  have A_phrase_number : At K mg "phrase_number" s_phrase_number ["phrase", "salt"] := at_mk X G a_phrase_number l_phrase_number b_phrase_number k_phrase_number (fun _ _ _ _ _ _ us hl => match us, hl with | [_, _], _ => rfl)
  have A_slot_of : At K mg "slot_of" s_slot_of ["key", "label", "phrase", "salt"] := at_mk X G a_slot_of l_slot_of b_slot_of k_slot_of (fun _ _ _ _ _ _ us hl => match us, hl with | [_, _, _, _], _ => rfl)
  have A_key_of : At K mg "key_of" s_key_of ["slot", "phrase"] := at_mk X G a_key_of l_key_of b_key_of k_key_of (fun _ _ _ _ _ _ us hl => match us, hl with | [_, _], _ => rfl)
  have A__law_taken : At K mg "_law_taken" s__law_taken ["row", "many"] := at_mk X G a__law_taken l__law_taken b__law_taken k__law_taken (fun _ _ _ _ _ _ us hl => match us, hl with | [_, _], _ => rfl)
  have A__law_pick : At K mg "_law_pick" s__law_pick ["row", "some"] := at_mk X G a__law_pick l__law_pick b__law_pick k__law_pick (fun _ _ _ _ _ _ us hl => match us, hl with | [_, _], _ => rfl)
  have A__law_alike : At K mg "_law_alike" s__law_alike ["found", "due"] := at_mk X G a__law_alike l__law_alike b__law_alike k__law_alike (fun _ _ _ _ _ _ us hl => match us, hl with | [_, _], _ => rfl)
  have A__law_text : At K mg "_law_text" s__law_text ["row", "least", "most"] := at_mk X G a__law_text l__law_text b__law_text k__law_text (fun _ _ _ _ _ _ us hl => match us, hl with | [_, _, _], _ => rfl)
  have A__law_number : At K mg "_law_number" s__law_number ["phrase", "salt"] := at_mk X G a__law_number l__law_number b__law_number k__law_number (fun _ _ _ _ _ _ us hl => match us, hl with | [_, _], _ => rfl)
  have A__law_slot : At K mg "_law_slot" s__law_slot ["key", "label", "phrase", "salt"] := at_mk X G a__law_slot l__law_slot b__law_slot k__law_slot (fun _ _ _ _ _ _ us hl => match us, hl with | [_, _, _, _], _ => rfl)
  have A__law_key : At K mg "_law_key" s__law_key ["slot", "phrase"] := at_mk X G a__law_key l__law_key b__law_key k__law_key (fun _ _ _ _ _ _ us hl => match us, hl with | [_, _], _ => rfl)
  have A_law : At K mg "law" s_law ["script"] := at_mk X G a_law l_law b_law k_law (fun _ _ _ _ _ _ us hl => match us, hl with | [_], _ => rfl)
  have z_isinstance := PySem.W.mg_none_of X G z_isinstance
  have z_bool := PySem.W.mg_none_of X G z_bool
  have z_int := PySem.W.mg_none_of X G z_int
  have z_all := PySem.W.mg_none_of X G z_all
  have z_str := PySem.W.mg_none_of X G z_str
  have z_len := PySem.W.mg_none_of X G z_len
  have z_sum := PySem.W.mg_none_of X G z_sum
  have z_enumerate := PySem.W.mg_none_of X G z_enumerate
  have z_ord := PySem.W.mg_none_of X G z_ord
  have z_tuple := PySem.W.mg_none_of X G z_tuple
  have z_list := PySem.W.mg_none_of X G z_list
  have z_range := PySem.W.mg_none_of X G z_range
  have z_dict := PySem.W.mg_none_of X G z_dict
  have z_min := PySem.W.mg_none_of X G z_min
  have c_SIGNS : ∃ t, mg "SIGNS" = some (.str " !\"#$&'()*+,-./0123456789:;<=>?@ABCDEFGHIJKLMNOPQRSTUVWXYZ[\\]^_`abcdefghijklmnopqrstuvwxyz{|}~" t) := ⟨_, PySem.W.mg_of X G c_SIGNS⟩
  have c_MOST_LABEL : ∃ t, mg "MOST_LABEL" = some (.int 20 t) := ⟨_, PySem.W.mg_of X G c_MOST_LABEL⟩
  have c_MOST_KEY : ∃ t, mg "MOST_KEY" = some (.int 65535 t) := ⟨_, PySem.W.mg_of X G c_MOST_KEY⟩
  have c_MOST_PHRASE : ∃ t, mg "MOST_PHRASE" = some (.int 40 t) := ⟨_, PySem.W.mg_of X G c_MOST_PHRASE⟩
  have c_MOST_NUMBER : ∃ t, mg "MOST_NUMBER" = some (.int 65535 t) := ⟨_, PySem.W.mg_of X G c_MOST_NUMBER⟩
  have c_ALL_NUMBERS : ∃ t, mg "ALL_NUMBERS" = some (.int 65536 t) := ⟨_, PySem.W.mg_of X G c_ALL_NUMBERS⟩
  obtain ⟨C, hC_BadKey, hC_BadPhrase, hC_BadSalt, hC_BadLabel, hC_BadSlot⟩ : ∃ C : Str → Addr, C "BadKey" = C_BadKey ∧ C "BadPhrase" = C_BadPhrase ∧ C "BadSalt" = C_BadSalt ∧ C "BadLabel" = C_BadLabel ∧ C "BadSlot" = C_BadSlot := ⟨fun x => if x = "BadKey" then C_BadKey else if x = "BadPhrase" then C_BadPhrase else if x = "BadSalt" then C_BadSalt else if x = "BadLabel" then C_BadLabel else if x = "BadSlot" then C_BadSlot else 0, (if_pos rfl), ((if_neg (by decide +kernel)).trans (if_pos rfl)), ((if_neg (by decide +kernel)).trans ((if_neg (by decide +kernel)).trans (if_pos rfl))), ((if_neg (by decide +kernel)).trans ((if_neg (by decide +kernel)).trans ((if_neg (by decide +kernel)).trans (if_pos rfl)))), ((if_neg (by decide +kernel)).trans ((if_neg (by decide +kernel)).trans ((if_neg (by decide +kernel)).trans ((if_neg (by decide +kernel)).trans (if_pos rfl)))))⟩
  obtain ⟨f, fd, g, F, bb⟩ := A_law.ex
  refine ⟨f, fd, g, fun s u => ?_, fun base _ _ => ?_⟩
  · obtain ⟨oc, od, kV, doc, pm, an, cdv, ct, osl, rfl, _, _⟩ := F.ex
    exact .of_eq rfl
  · have I0 : InitC P w K mg base "value" fI := init_mk lI bI kI tI lT scI rfl (by decide +kernel) (by decide +kernel) (by decide) (by decide) (fun _ _ _ _ _ _ _ us its hu hi => match us, its, hu, hi with | [_, _], [_], _, _ => ⟨_, rfl, rfl⟩)
    have X_BadKey : ErrC K mg P w base "BadKey" (C "BadKey") "value" [] [] := by rw [hC_BadKey]; exact err_mk X G I0 ea_BadKey ec_BadKey er_BadKey es_BadKey ex_BadKey ey_BadKey ek_BadKey en_BadKey ei_BadKey
    have X_BadPhrase : ErrC K mg P w base "BadPhrase" (C "BadPhrase") "value" [] [] := by rw [hC_BadPhrase]; exact err_mk X G I0 ea_BadPhrase ec_BadPhrase er_BadPhrase es_BadPhrase ex_BadPhrase ey_BadPhrase ek_BadPhrase en_BadPhrase ei_BadPhrase
    have X_BadSalt : ErrC K mg P w base "BadSalt" (C "BadSalt") "value" [] [] := by rw [hC_BadSalt]; exact err_mk X G I0 ea_BadSalt ec_BadSalt er_BadSalt es_BadSalt ex_BadSalt ey_BadSalt ek_BadSalt en_BadSalt ei_BadSalt
    have X_BadLabel : ErrC K mg P w base "BadLabel" (C "BadLabel") "value" [] [] := by rw [hC_BadLabel]; exact err_mk X G I0 ea_BadLabel ec_BadLabel er_BadLabel es_BadLabel ex_BadLabel ey_BadLabel ek_BadLabel en_BadLabel ei_BadLabel
    have X_BadSlot : ErrC K mg P w base "BadSlot" (C "BadSlot") "value" [] [] := by rw [hC_BadSlot]; exact err_mk X G I0 ea_BadSlot ec_BadSlot er_BadSlot es_BadSlot ex_BadSlot ey_BadSlot ek_BadSlot en_BadSlot ei_BadSlot
    have D_is_integer := has_is_integer (P := P) (w := w) (base := base) C A_is_integer z_bool z_int z_isinstance
    have D_is_within := has_is_within (P := P) (w := w) (base := base) C A_is_within D_is_integer
    have D_is_text := has_is_text (P := P) (w := w) (base := base) C A_is_text z_all z_isinstance z_str c_SIGNS
    have D_is_label := has_is_label (P := P) (w := w) (base := base) C A_is_label D_is_text z_len c_MOST_LABEL
    have D_is_tag := has_is_tag (P := P) (w := w) (base := base) C A_is_tag D_is_label
    have D_check_key := has_check_key (P := P) (w := w) (base := base) C A_check_key D_is_within c_MOST_KEY X_BadKey
    have D_check_phrase := has_check_phrase (P := P) (w := w) (base := base) C A_check_phrase D_is_text z_len c_MOST_PHRASE X_BadPhrase
    have D_check_salt := has_check_salt (P := P) (w := w) (base := base) C A_check_salt D_is_within c_MOST_NUMBER X_BadSalt
    have D_check_label := has_check_label (P := P) (w := w) (base := base) C A_check_label D_is_tag X_BadLabel
    have D_number_of := has_number_of (P := P) (w := w) (base := base) C A_number_of z_enumerate z_ord z_sum c_ALL_NUMBERS
    have D_check_of := has_check_of (P := P) (w := w) (base := base) C A_check_of c_ALL_NUMBERS
    have D_is_slot := has_is_slot (P := P) (w := w) (base := base) C A_is_slot D_is_tag D_is_within z_all z_isinstance z_len z_tuple c_MOST_NUMBER
    have D_opened_key := has_opened_key (P := P) (w := w) (base := base) C A_opened_key D_number_of D_check_of c_ALL_NUMBERS
    have D_phrase_number := has_phrase_number (P := P) (w := w) (base := base) C A_phrase_number D_check_phrase D_check_salt D_number_of
    have D_slot_of := has_slot_of (P := P) (w := w) (base := base) C A_slot_of D_check_key D_check_label D_check_phrase D_check_salt D_check_of D_number_of c_ALL_NUMBERS
    have D_key_of := has_key_of (P := P) (w := w) (base := base) C A_key_of D_is_slot D_check_phrase D_opened_key X_BadSlot
    have D__law_taken := has__law_taken (P := P) (w := w) (base := base) C A__law_taken z_int z_len
    have D__law_pick := has__law_pick (P := P) (w := w) (base := base) C A__law_pick D__law_taken z_len
    have D__law_alike := has__law_alike (P := P) (w := w) (base := base) C A__law_alike z_bool z_dict z_int z_isinstance z_len z_list z_range z_str z_tuple
    have D__law_text := has__law_text (P := P) (w := w) (base := base) C A__law_text D__law_taken D__law_pick z_min z_range
    have D__law_number := has__law_number (P := P) (w := w) (base := base) C A__law_number z_int z_len z_ord z_range
    have D__law_slot := has__law_slot (P := P) (w := w) (base := base) C A__law_slot D__law_number z_int
    have D__law_key := has__law_key (P := P) (w := w) (base := base) C A__law_key D__law_number z_int
    exact fn_law C F D__law_taken D__law_pick D__law_text D__law_alike D__law_number D_phrase_number D__law_slot D_slot_of D__law_key D_key_of z_int z_range
end Lw
open PySem PySem.W PyProof.Rows
set_option maxHeartbeats 0 in
theorem PySem.Challenge.cw_sparehouses_k43_slots_holds : PySem.Challenge.rw_sparehouses_k43_slots.Holds := by
  w_on; o_law; k_head; (case hw => w_witness2)
  k_fill
  refine KD.walkD (l := PySem.Challenge.rw_sparehouses_k43_slots) (k := 7) rfl rfl ⟨rfl, by decide, by decide⟩ rfl (fun w h Y => PySem.W.kIn_of Y) ?F
  case F =>
    intro w mg h KX G
    refine' Lw.all_mk KX G ?a_is_integer ?l_is_integer ?b_is_integer ?k_is_integer ?a_is_within ?l_is_within ?b_is_within ?k_is_within ?a_is_text ?l_is_text ?b_is_text ?k_is_text ?a_is_label ?l_is_label ?b_is_label ?k_is_label ?a_is_tag ?l_is_tag ?b_is_tag ?k_is_tag ?a_check_key ?l_check_key ?b_check_key ?k_check_key ?a_check_phrase ?l_check_phrase ?b_check_phrase ?k_check_phrase ?a_check_salt ?l_check_salt ?b_check_salt ?k_check_salt ?a_check_label ?l_check_label ?b_check_label ?k_check_label ?a_number_of ?l_number_of ?b_number_of ?k_number_of ?a_check_of ?l_check_of ?b_check_of ?k_check_of ?a_is_slot ?l_is_slot ?b_is_slot ?k_is_slot ?a_opened_key ?l_opened_key ?b_opened_key ?k_opened_key ?a_phrase_number ?l_phrase_number ?b_phrase_number ?k_phrase_number ?a_slot_of ?l_slot_of ?b_slot_of ?k_slot_of ?a_key_of ?l_key_of ?b_key_of ?k_key_of ?a__law_taken ?l__law_taken ?b__law_taken ?k__law_taken ?a__law_pick ?l__law_pick ?b__law_pick ?k__law_pick ?a__law_alike ?l__law_alike ?b__law_alike ?k__law_alike ?a__law_text ?l__law_text ?b__law_text ?k__law_text ?a__law_number ?l__law_number ?b__law_number ?k__law_number ?a__law_slot ?l__law_slot ?b__law_slot ?k__law_slot ?a__law_key ?l__law_key ?b__law_key ?k__law_key ?a_law ?l_law ?b_law ?k_law ?z_isinstance ?z_bool ?z_int ?z_all ?z_str ?z_len ?z_sum ?z_enumerate ?z_ord ?z_tuple ?z_list ?z_range ?z_dict ?z_min ?c_SIGNS ?c_MOST_LABEL ?c_MOST_KEY ?c_MOST_PHRASE ?c_MOST_NUMBER ?c_ALL_NUMBERS ?ea_BadKey ?ei_BadKey ?ea_BadPhrase ?ei_BadPhrase ?ea_BadSalt ?ei_BadSalt ?ea_BadLabel ?ei_BadLabel ?ea_BadSlot ?ei_BadSlot ?lI ?bI ?kI ?tI ?lT ?ec_BadKey ?er_BadKey ?es_BadKey ?ex_BadKey ?ey_BadKey ?ek_BadKey ?en_BadKey ?ec_BadPhrase ?er_BadPhrase ?es_BadPhrase ?ex_BadPhrase ?ey_BadPhrase ?ek_BadPhrase ?en_BadPhrase ?ec_BadSalt ?er_BadSalt ?es_BadSalt ?ex_BadSalt ?ey_BadSalt ?ek_BadSalt ?en_BadSalt ?ec_BadLabel ?er_BadLabel ?es_BadLabel ?ex_BadLabel ?ey_BadLabel ?ek_BadLabel ?en_BadLabel ?ec_BadSlot ?er_BadSlot ?es_BadSlot ?ex_BadSlot ?ey_BadSlot ?ek_BadSlot ?en_BadSlot
    (case a_is_integer => k_is)
    (case l_is_integer => k_is)
    (case b_is_integer => k_is)
    (case k_is_integer => k_is)
    (case a_is_within => k_is)
    (case l_is_within => k_is)
    (case b_is_within => k_is)
    (case k_is_within => k_is)
    (case a_is_text => k_is)
    (case l_is_text => k_is)
    (case b_is_text => k_is)
    (case k_is_text => k_is)
    (case a_is_label => k_is)
    (case l_is_label => k_is)
    (case b_is_label => k_is)
    (case k_is_label => k_is)
    (case a_is_tag => k_is)
    (case l_is_tag => k_is)
    (case b_is_tag => k_is)
    (case k_is_tag => k_is)
    (case a_check_key => k_is)
    (case l_check_key => k_is)
    (case b_check_key => k_is)
    (case k_check_key => k_is)
    (case a_check_phrase => k_is)
    (case l_check_phrase => k_is)
    (case b_check_phrase => k_is)
    (case k_check_phrase => k_is)
    (case a_check_salt => k_is)
    (case l_check_salt => k_is)
    (case b_check_salt => k_is)
    (case k_check_salt => k_is)
    (case a_check_label => k_is)
    (case l_check_label => k_is)
    (case b_check_label => k_is)
    (case k_check_label => k_is)
    (case a_number_of => k_is)
    (case l_number_of => k_is)
    (case b_number_of => k_is)
    (case k_number_of => k_is)
    (case a_check_of => k_is)
    (case l_check_of => k_is)
    (case b_check_of => k_is)
    (case k_check_of => k_is)
    (case a_is_slot => k_is)
    (case l_is_slot => k_is)
    (case b_is_slot => k_is)
    (case k_is_slot => k_is)
    (case a_opened_key => k_is)
    (case l_opened_key => k_is)
    (case b_opened_key => k_is)
    (case k_opened_key => k_is)
    (case a_phrase_number => k_is)
    (case l_phrase_number => k_is)
    (case b_phrase_number => k_is)
    (case k_phrase_number => k_is)
    (case a_slot_of => k_is)
    (case l_slot_of => k_is)
    (case b_slot_of => k_is)
    (case k_slot_of => k_is)
    (case a_key_of => k_is)
    (case l_key_of => k_is)
    (case b_key_of => k_is)
    (case k_key_of => k_is)
    (case a__law_taken => k_is)
    (case l__law_taken => k_is)
    (case b__law_taken => k_is)
    (case k__law_taken => k_is)
    (case a__law_pick => k_is)
    (case l__law_pick => k_is)
    (case b__law_pick => k_is)
    (case k__law_pick => k_is)
    (case a__law_alike => k_is)
    (case l__law_alike => k_is)
    (case b__law_alike => k_is)
    (case k__law_alike => k_is)
    (case a__law_text => k_is)
    (case l__law_text => k_is)
    (case b__law_text => k_is)
    (case k__law_text => k_is)
    (case a__law_number => k_is)
    (case l__law_number => k_is)
    (case b__law_number => k_is)
    (case k__law_number => k_is)
    (case a__law_slot => k_is)
    (case l__law_slot => k_is)
    (case b__law_slot => k_is)
    (case k__law_slot => k_is)
    (case a__law_key => k_is)
    (case l__law_key => k_is)
    (case b__law_key => k_is)
    (case k__law_key => k_is)
    (case a_law => k_is)
    (case l_law => k_is)
    (case b_law => k_is)
    (case k_law => k_is)
    (case z_isinstance => k_is)
    (case z_bool => k_is)
    (case z_int => k_is)
    (case z_all => k_is)
    (case z_str => k_is)
    (case z_len => k_is)
    (case z_sum => k_is)
    (case z_enumerate => k_is)
    (case z_ord => k_is)
    (case z_tuple => k_is)
    (case z_list => k_is)
    (case z_range => k_is)
    (case z_dict => k_is)
    (case z_min => k_is)
    (case c_SIGNS => k_is)
    (case c_MOST_LABEL => k_is)
    (case c_MOST_KEY => k_is)
    (case c_MOST_PHRASE => k_is)
    (case c_MOST_NUMBER => k_is)
    (case c_ALL_NUMBERS => k_is)
    (case ea_BadKey => k_is)
    (case ei_BadKey => k_is)
    (case ea_BadPhrase => k_is)
    (case ei_BadPhrase => k_is)
    (case ea_BadSalt => k_is)
    (case ei_BadSalt => k_is)
    (case ea_BadLabel => k_is)
    (case ei_BadLabel => k_is)
    (case ea_BadSlot => k_is)
    (case ei_BadSlot => k_is)
    (case lI => k_is)
    (case bI => k_is)
    (case kI => k_is)
    (case tI => k_is)
    (case lT => k_is)
    (case ec_BadKey => k_is)
    (case er_BadKey => decide +kernel)
    (case es_BadKey => k_is)
    (case ex_BadKey => k_is)
    (case ey_BadKey => k_is)
    (case ek_BadKey => k_is)
    (case en_BadKey => k_is)
    (case ec_BadPhrase => k_is)
    (case er_BadPhrase => decide +kernel)
    (case es_BadPhrase => k_is)
    (case ex_BadPhrase => k_is)
    (case ey_BadPhrase => k_is)
    (case ek_BadPhrase => k_is)
    (case en_BadPhrase => k_is)
    (case ec_BadSalt => k_is)
    (case er_BadSalt => decide +kernel)
    (case es_BadSalt => k_is)
    (case ex_BadSalt => k_is)
    (case ey_BadSalt => k_is)
    (case ek_BadSalt => k_is)
    (case en_BadSalt => k_is)
    (case ec_BadLabel => k_is)
    (case er_BadLabel => decide +kernel)
    (case es_BadLabel => k_is)
    (case ex_BadLabel => k_is)
    (case ey_BadLabel => k_is)
    (case ek_BadLabel => k_is)
    (case en_BadLabel => k_is)
    (case ec_BadSlot => k_is)
    (case er_BadSlot => decide +kernel)
    (case es_BadSlot => k_is)
    (case ex_BadSlot => k_is)
    (case ey_BadSlot => k_is)
    (case ek_BadSlot => k_is)
    (case en_BadSlot => k_is)
